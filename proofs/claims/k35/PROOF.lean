import PyProof.Rows.All
import Wide.All
import OpenK.AllK
import Wide.FinOn
import HandS.ForMost
import HandS.NoneIn
import HandS.CallLocal
import PyProof.ReprRoads
import KE.SortKeyHeap
import HandS.SortKw
import HandS.Strs
import HandS.SetFor
import HandS.TupAny
import HandS.TupSets
import HandS.Style
import HandS.Conv
import HandS.Deep
import HandS.IsInst
import HandS.Steps
import HandS.Small
import HandS.Dict
import HandS.WordsDict
import HandS.TupLen
import KE.KDictSum
import HandS.Exc
import HandS.ExcIs
import HandS.ExcOwn
import HandS.WordsExc
import KE.KExcIs
import HandS.ExcInit
import HandS.ExcField
import HandS.Lambda
import HandS.TupMul
import KE.KDictDisplayH
import HandS.Wide
import HandS.List
import HandS.TryOnly
import PyProof.SeqIndex
import KE.KDictWalk
import KE.KDictLaws
import PyProof.DictMoreH
import KE.GoesEnum
import HandS.WideBits
import KE.DataMinMax
import PyProof.Rows.RowBridgeK
import KE.KDictPairs
import HandS.DictTup
import HandS.Text
import HandS.Records
import HandS.HotCalls
import HandS.ExcCtx
import PyProof.Seq
import PyProof.MinMaxWalk
import PySem.Challenge.RW_wholesides_k35_parts_and_beginnings
set_option Elab.async false
set_option linter.all false
set_option maxRecDepth 100000
set_option maxHeartbeats 4000000
namespace Ws
open PySem PySem.Spec PyProof.Rows L2
/-- a def's promise, kept wherever the stack bears no running repr -/
structure FnG (P : Program) (w : World) (K : PySem.W.Frag) (mg : Str → Option Value) (base : Heap) (k : Nat) (f : Addr) (fd : FuncData) (ps : List Str) (sp : Sp) : Prop where
  len : ∀ vs H Q E, sp vs H Q E → vs.length = ps.length
  run : ∀ (A : Around) (outer : List Env) (s : Shared) (H : Hp) (args : Args) (us : List Value) (vs : List V) (Q : VK) (E : XK), A.guards = some [] → Room k A →
    Env0 P w K mg base A outer s H → BindsTo s fd args (ps.zip us) → Vals vs us → sp vs H Q E → codeAny (model P w) A (.call (.ref f) args) (CR CX0 outer P w H s Q E) s
section
variable {P : Program} {w : World} {K : PySem.W.Frag} {mg : Str → Option Value} {base : Heap} {k : Nat} {f : Addr} {fd : FuncData} {ps : List Str} {sp : Sp}
theorem FnG.of (F : FnOk P w K mg base CX0 k f fd ps sp) : FnG P w K mg base k f fd ps sp :=
  ⟨F.len, fun A outer s H args us vs Q E _ => F.run A outer s H args us vs Q E⟩
theorem FnG.up {j : Nat} (F : FnG P w K mg base j f fd ps sp) (h : j ≤ k) : FnG P w K mg base k f fd ps sp :=
  ⟨F.len, fun A outer s H args us vs Q E hg hr => F.run A outer s H args us vs Q E hg (hr.mono h)⟩
end
/-- the module's name x holds a def that keeps sp -/
structure Has (P : Program) (w : World) (K : PySem.W.Frag) (mg : Str → Option Value) (base : Heap) (x : Str) (ps : List Str) (k : Nat) (sp : Sp) : Prop where
  ex : ∃ (f : Addr) (fd : FuncData), mg x = some (.ref f) ∧ PySem.W.keepIn K (.ref f) = true ∧ Binds K fd ps [] ∧ FnOk P w K mg base CX0 k f fd ps sp
structure HasG (P : Program) (w : World) (K : PySem.W.Frag) (mg : Str → Option Value) (base : Heap) (x : Str) (ps : List Str) (k : Nat) (sp : Sp) : Prop where
  ex : ∃ (f : Addr) (fd : FuncData), mg x = some (.ref f) ∧ PySem.W.keepIn K (.ref f) = true ∧ Binds K fd ps [] ∧ FnG P w K mg base k f fd ps sp
section
variable {X : Cx} {x : Str} {ps : List Str} {k : Nat} {sp : Sp} {p pos : Pos} {e : Expr} {es : List Expr} {t : TA}
theorem Has.g {P : Program} {w : World} {K : PySem.W.Frag} {mg : Str → Option Value} {base : Heap} (h : Has P w K mg base x ps k sp) : HasG P w K mg base x ps k sp :=
  let ⟨f, fd, h1, h2, h3, h4⟩ := h.ex
  ⟨f, fd, h1, h2, h3, .of h4⟩
theorem pe_h (h : Has X.prog X.w X.K X.mg X.base x ps k sp) (hr : Room k X.A) (hg : Gl X x) (ha : PA X (e :: es) t) (hdb : (x == ("__debug__" : Str)) = false := by decide)
    (he : starEach (e :: es) X.env = (false, eval e X.env) :: starEach es X.env := by rfl) (hpl : (backTo pos (starEach es X.env)).any (·.1) = false := by rfl) :
    PE X (.Call (.Name x p) (e :: es) [] pos) (tCall sp [] E0 t) := by
  obtain ⟨f, fd, hm, hk, hb, F⟩ := h.ex
  exact pe_call F hr hg hm hk hb .nil pass0 ha hdb he hpl
/-- a call of a def that needs to know that no repr runs -/
theorem pe_g (h : HasG X.prog X.w X.K X.mg X.base x ps k sp) (hq : X.A.guards = some []) (hr : Room k X.A) (hg : Gl X x) (ha : PA X (e :: es) t) (hdb : (x == ("__debug__" : Str)) = false := by decide)
    (he : starEach (e :: es) X.env = (false, eval e X.env) :: starEach es X.env := by rfl) (hpl : (backTo pos (starEach es X.env)).any (·.1) = false := by rfl) :
    PE X (.Call (.Name x p) (e :: es) [] pos) (tCall sp [] E0 t) := by
  obtain ⟨f, fd, hm, hk, hb, F⟩ := h.ex
  refine ⟨fun pins s σ H Q I hw => wpAny_Call_Name_kw (ld_glob I hg hm ?_ hdb)⟩
  refine PySem.W.callWith_K (h₀ := X.base) I.ok.mod.kin hk (thn (ha.run pos pins s σ H _ I hw) fun us s1 ⟨vs, H1, I1, r, q⟩ => ⟨I1.kIn, ?_⟩) he hpl
  have r2 : Vals (vs ++ []) (us ++ []) := r.append .nil
  have hl : (us ++ []).length = ps.length := r2.length.symm.trans (F.len _ _ _ _ q)
  refine wpAny_call (codeAny_mono (F.run X.A X.stack s1 H1 ⟨us, []⟩ _ _ Q E0 hq hr I1.env0 (hb s1 us I1.kIn hl) r2 q) fun res s' hs => ?_)
  match res, hs with
  | .error _, z => exact False.elim z
  | .ok (.ret u), z => exact I1.after z
  | .ok .next, z => exact False.elim z
  | .ok .brk, z => exact False.elim z
  | .ok .cont, z => exact False.elim z
end
/-- a statement, then the rest; between them a word, from which the rest is shown once -/
def tCut (t u : TS) : TS := fun D σ H => ∃ M : L2.St → Hp → Prop, t { D with nx := M } σ H ∧ ∀ σ' H', M σ' H' → u D σ' H'
theorem pss_cut {X : Cx} {st : Stmt} {rest : List Stmt} {t u : TS} (h1 : PS X st t) (h2 : PSs X rest u) : PSs X (st :: rest) (tCut t u) := by
  refine ⟨fun pins s σ H D I ⟨M, hm, hu⟩ => wpAny_execs_cons (thn (h1.run pins s σ H _ I hm) fun f s1 q => ?_)⟩
  match f, q with
  | .next, ⟨σ', H', I', m⟩ => exact h2.run pins s1 σ' H' D I' (hu σ' H' m)
  | .ret _, q => exact q
  | .brk, q => exact q
  | .cont, q => exact q
mutual
/-- ints below 10 ^ k in size, no dict -/
def small (k : Nat) : PyData → Bool
  | .none | .bool _ | .str _ => true
  | .int i => decide (i.natAbs < 10 ^ k)
  | .list xs | .tuple xs => smallAll k xs
  | .dict _ => false
def smallAll (k : Nat) : List PyData → Bool
  | [] => true
  | x :: xs => small k x && smallAll k xs
end
mutual
/-- how many signs its text may have -/
def cost (k : Nat) : PyData → Nat
  | .none => 4
  | .bool _ => 5
  | .int _ => k + 1
  | .str s => (reprText s).length
  | .list xs | .tuple xs => costAll k xs + 4
  | .dict _ => 0
def costAll (k : Nat) : List PyData → Nat
  | [] => 0
  | x :: xs => cost k x + 2 + costAll k xs
end
theorem smallAll_iff {k : Nat} : ∀ {xs : List PyData}, smallAll k xs = true ↔ ∀ x ∈ xs, small k x = true
  | [] => by simp [smallAll]
  | x :: xs => by simp [smallAll, smallAll_iff (xs := xs)]
theorem costAll_le {k m : Nat} : ∀ {xs : List PyData}, (∀ x ∈ xs, cost k x ≤ m) → costAll k xs ≤ (m + 2) * xs.length
  | [], _ => Nat.zero_le _
  | x :: xs, h => by
    have h1 := h x List.mem_cons_self
    have h2 := costAll_le (m := m) fun y hy => h y (List.mem_cons_of_mem _ hy)
    show cost k x + 2 + costAll k xs ≤ (m + 2) * (xs.length + 1)
    rw [Nat.mul_add]
    omega
theorem textFrom_le : ∀ (ts : List Str) (k : Nat) (acc : Str), (textFrom k acc ts).length ≤ acc.length + piled ts
  | [], _, _ => by simp [textFrom, piled]
  | t :: r, k, acc => by
    have h := textFrom_le r (k + 1) (acc ++ (if k > 0 then ", " else "" : String) ++ t)
    have e : ((if k > 0 then ", " else "" : String) : Str).length ≤ 2 := by split <;> decide +kernel
    rw [strLen_append, strLen_append] at h
    rw [piled_cons]
    show (textFrom (k + 1) _ r).length ≤ _
    omega
theorem listText_le (ts : List Str) : (listText ts).length ≤ piled ts + 2 := by
  have h := textFrom_le ts 0 "["
  have e1 : (("[" : String) : Str).length = 1 := rfl
  have e2 : (("]" : String) : Str).length = 1 := rfl
  unfold listText
  rw [strLen_append, e2]
  omega
theorem tupleText_le (ts : List Str) : (tupleText ts).length ≤ piled ts + 4 := by
  have e3 : (((if ts.length == 1 then ",)" else ")" : String) : Str)).length ≤ 2 := by split <;> decide +kernel
  have e1 : ((("(" : String) : Str)).length = 1 := rfl
  unfold tupleText
  rw [strLen_append, strLen_append, e1]
  by_cases h : ts = []
  · subst h
    have e : (Str.join ", " []).length = 0 := rfl
    omega
  · have := join_length_add ts h
    omega
theorem int_le {i : Int} {k : Nat} (hk : 0 < k) (h : i.natAbs < 10 ^ k) : (Str.ofString (toString i)).length ≤ k + 1 := by
  rw [PySem.ofString_length]
  exact int_text_length_le10 hk h
mutual
theorem shown_le {k : Nat} (hk : 0 < k) : ∀ d : PyData, small k d = true → d.shown.length ≤ cost k d
  | .none, _ => (show (PyData.shown .none).length ≤ 4 by decide +kernel)
  | .bool b, _ => (show (PyData.shown (.bool b)).length ≤ 5 by cases b <;> decide +kernel)
  | .int i, h => by
    have h' : i.natAbs < 10 ^ k := by simpa [small] using h
    exact int_le hk h'
  | .str s, _ => Nat.le_refl _
  | .list xs, h => by
    have h1 := listText_le (PyData.shownAll xs)
    have h2 := shownAll_le hk xs (by simpa [small] using h)
    show (listText (PyData.shownAll xs)).length ≤ costAll k xs + 4
    omega
  | .tuple xs, h => by
    have h1 := tupleText_le (PyData.shownAll xs)
    have h2 := shownAll_le hk xs (by simpa [small] using h)
    show (tupleText (PyData.shownAll xs)).length ≤ costAll k xs + 4
    omega
  | .dict _, h => by simp [small] at h
theorem shownAll_le {k : Nat} (hk : 0 < k) : ∀ xs : List PyData, smallAll k xs = true → piled (PyData.shownAll xs) ≤ costAll k xs
  | [], _ => by simp [PyData.shownAll, piled]
  | x :: xs, h => by
    have h' : small k x = true ∧ smallAll k xs = true := by simpa [smallAll] using h
    have h1 := shown_le hk x h'.1
    have h2 := shownAll_le hk xs h'.2
    show piled (PyData.shown x :: PyData.shownAll xs) ≤ cost k x + 2 + costAll k xs
    rw [piled_cons]
    omega
end
theorem log_small {i : Int} {k : Nat} (hk : k ≤ 500) (h : i.natAbs < 10 ^ k) : i.natAbs.log2 < 1920 := by
  by_cases h0 : i.natAbs = 0
  · rw [h0]
    decide
  · rw [Nat.log2_lt h0]
    have h1 : 10 ^ k ≤ 10 ^ 500 := Nat.pow_le_pow_right (by decide) hk
    have h2 : (10 : Nat) ^ 500 < 2 ^ 1920 := by decide +kernel
    exact Nat.lt_of_lt_of_le h (Nat.le_trans h1 (Nat.le_of_lt h2))
mutual
theorem small_shows {k : Nat} (hk : k ≤ 500) : ∀ d : PyData, small k d = true → d.showable = true ∧ d.hasDict = false
  | .none, _ => by simp [PyData.showable, PyData.hasDict]
  | .bool b, _ => by simp [PyData.showable, PyData.hasDict]
  | .int i, h => by
    have h' : i.natAbs < 10 ^ k := by simpa [small] using h
    simp [PyData.showable, PyData.hasDict, log_small hk h']
  | .str s, _ => by simp [PyData.showable, PyData.hasDict]
  | .list xs, h => by simpa [PyData.showable, PyData.hasDict] using small_showsAll hk xs (by simpa [small] using h)
  | .tuple xs, h => by simpa [PyData.showable, PyData.hasDict] using small_showsAll hk xs (by simpa [small] using h)
  | .dict _, h => by simp [small] at h
theorem small_showsAll {k : Nat} (hk : k ≤ 500) : ∀ xs : List PyData, smallAll k xs = true → PyData.showableAll xs = true ∧ PyData.hasDictAll xs = false
  | [], _ => by simp [PyData.showableAll, PyData.hasDictAll]
  | x :: xs, h => by
    have h' : small k x = true ∧ smallAll k xs = true := by simpa [smallAll] using h
    have h1 := small_shows hk x h'.1
    have h2 := small_showsAll hk xs h'.2
    simp [PyData.showableAll, PyData.hasDictAll, h1, h2]
end
/-- repr of what is read as d: a list or a tuple -/
def rReprD (K : PySem.W.Frag) : List V → Hp → VK → Prop := fun xs H Q => ∃ (a : Addr) (d : PyData) (k : Nat), xs = [.ref a] ∧ Dp K H (.ref a) d ∧ d.depth ≤ 60 ∧ (0 < k ∧ k ≤ 500) ∧ small k d = true ∧ cost k d ≤ sizeLine ∧ Q (.str d.shown) H
theorem call_reprD {X : Cx} (hg : X.A.guards = some []) (hu : X.A.units + 64 < cLine) : CallR X (.builtin "repr") (rReprD X.K) := by
  intro pins s σ H vs us Q I r h
  obtain ⟨a, d, k, rfl, hd, hz, ⟨k0, k1⟩, hs, hc, q⟩ := h
  cases r with
  | cons r1 r2 =>
    cases r2
    cases r1
    obtain ⟨as, rd⟩ := Dp.reads I d _ _ hd rfl
    obtain ⟨s1, s2⟩ := small_shows k1 d hs
    exact repr_of_reads' rd s1 (PyData.noDict_hsm s2) hg (by omega) (fun _ _ e => e) (fun h' u tk kp => ⟨.str d.shown, H, I.kept kp, ⟨u, rfl⟩, q⟩) (Nat.le_trans (shown_le k0 d hs) hc)
structure Ch (S : List Addr) (H H' : Hp) : Prop where
  keep : ∀ b o, b ∉ S → H b = some o → H' b = some o
  tup : ∀ b xs, H b = some (.tup xs) → H' b = some (.tup xs)
  frz : ∀ b o u, H b = some (.frz o u) → H' b = some (.frz o u)
/-- a list that is read and never written: the script -/
def Fz (K : PySem.W.Frag) (H : Hp) (a : Addr) (xs : List V) : Prop := (∃ o, H a = some (.frz o (.lst xs))) ∨ ∀ H', SqL K H' a xs
section
variable {K : PySem.W.Frag} {S S' : List Addr} {H H' H1 H2 : Hp} {p q a l : Addr} {o u : HO} {xs ys : List V}
theorem Ch.refl : Ch S H H := ⟨fun _ _ _ h => h, fun _ _ h => h, fun _ _ _ h => h⟩
theorem Ch.trans (c : Ch S H H1) (d : Ch S H1 H2) : Ch S H H2 := ⟨fun b o n h => d.keep b o n (c.keep b o n h), fun b xs h => d.tup b xs (c.tup b xs h), fun b o u h => d.frz b o u (c.frz b o u h)⟩
theorem Ch.mono (c : Ch S H H') (h : ∀ b ∈ S, b ∈ S') : Ch S' H H' := ⟨fun b o n e => c.keep b o (fun z => n (h b z)) e, c.tup, c.frz⟩
theorem Ch.lst (c : Ch [] H H') (h : H l = some o) : H' l = some o := c.keep l o List.not_mem_nil h
theorem Fz.sql (h : Fz K H a xs) : SqL K H a xs := by
  rcases h with ⟨o, h⟩ | h
  · exact .inl (.inr ⟨o, h⟩)
  · exact h H
theorem Ch.sqt (c : Ch S H H') (h : SqT K H a xs) : SqT K H' a xs := by
  rcases h with (h | ⟨o, h⟩) | h
  · exact .inl (.inl (c.tup _ _ h))
  · exact .inl (.inr ⟨o, c.frz _ _ _ h⟩)
  · exact .inr h
theorem Ch.sql (c : Ch [] H H') (h : SqL K H a xs) : SqL K H' a xs := by
  rcases h with (h | ⟨o, h⟩) | h
  · exact .inl (.inl (c.lst h))
  · exact .inl (.inr ⟨o, c.frz _ _ _ h⟩)
  · exact .inr h
theorem Ch.free (c : Ch [] H H') (h : H' l = none) : H l = none := by
  cases q : H l with
  | none => rfl
  | some o =>
    rw [c.lst q] at h
    cases h
theorem Ch.new (h : H p = none) : Ch S H (upd H p o) := by
  have k : ∀ b u, H b = some u → upd H p o b = some u := fun b u e => by
    rw [upd_ne (ne_of_none e h)]
    exact e
  exact ⟨fun b u _ e => k b u e, fun b xs e => k _ _ e, fun b o u e => k _ _ e⟩
/-- a list is changed -/
theorem Ch.put (h : H p = some (.lst xs)) : Ch [p] H (upd H p o) := by
  refine ⟨fun b u n e => ?_, fun b xs e => ?_, fun b o u e => ?_⟩
  · rw [upd_ne (by simpa using n)]
    exact e
  · rw [upd_ne (ne_of e h (by intro z; cases z))]
    exact e
  · rw [upd_ne (ne_of e h (by intro z; cases z))]
    exact e
theorem ne_new (h : H l = some o) (h' : H p = none) : l ≠ p := ne_of_none h h'
end
section
variable {K : PySem.W.Frag} {σ : L2.St} {H : Hp} {Q : VK} {QB : Bool → Hp → Prop} {ta tb tc te : TE} {tt tu : TT} {x y v : V} {D : Ends} {s1 s2 : TS} {i j : Int} {n : Nat} {p a : Addr} {xs ys : List V}
/-- a new object o is laid -/
def New (H : Hp) (o : HO) (Q : VK) : Prop := ∀ p, H p = none → Q (.ref p) (upd H p o)
end
section
variable {X : Cx} {H : Hp} {Q : VK} {i j : Int}
def rAdd : R2 := rI0 fun i j => .int (i + j)
def rSub : R2 := rI0 fun i j => .int (i - j)
def rMul : R2 := rI CMul fun i j => .int (i * j)
def rDiv : R2 := rI CDiv fun i j => .int (i / j)
def rMod : R2 := rI (fun _ j => 0 < j) fun i j => .int (i % j)
def rPow : R2 := rI CPow fun i j => .int (i ^ j.toNat)
def rLt : R2 := rI0 fun i j => .bl (decide (i < j))
def rLe : R2 := rI0 fun i j => .bl (decide (i ≤ j))
def rGt : R2 := rI0 fun i j => .bl (decide (j < i))
def rGe : R2 := rI0 fun i j => .bl (decide (j ≤ i))
theorem o_add : OpR X (binaryOp .Add) rAdd := op_add
theorem o_sub : OpR X (binaryOp .Sub) rSub := op_sub
theorem o_mul : OpR X (binaryOp .Mult) rMul := op_mul
theorem o_div : OpR X (binaryOp .FloorDiv) rDiv := op_fdiv
theorem o_mod : OpR X (binaryOp .Mod) rMod := op_mod
theorem o_pow : OpR X (binaryOp .Pow) rPow := op_pow
theorem o_lt : OpR X (compareOp .Lt) rLt := op_lt
theorem o_le : OpR X (compareOp .LtE) rLe := op_le
theorem o_gt : OpR X (compareOp .Gt) rGt := op_gt
theorem o_ge : OpR X (compareOp .GtE) rGe := op_ge
end
section
variable {X : Cx}
def rLenL (K : PySem.W.Frag) : List V → Hp → VK → Prop := fun xs H Q => ∃ p ys, xs = [.ref p] ∧ (SqL K H p ys ∨ SqT K H p ys) ∧ Q (.int ys.length) H
theorem cr_len : CallR X (.builtin "len") (rLenL X.K) := call_len_seq
def rAbs : List V → Hp → VK → Prop := fun xs H Q => ∃ i, xs = [.int i] ∧ Q (.int (if i < 0 then -i else i)) H
theorem cr_abs : CallR X (.builtin "abs") rAbs := call_abs
variable {K : PySem.W.Frag} {H : Hp} {Q : VK} {p : Addr} {xs : List V} {i : Int}
end
section
variable {X : Cx}
def rIntB : List V → Hp → VK → Prop := fun xs H Q => (∃ i, xs = [.int i] ∧ Q (.int i) H) ∨ ∃ k, xs = [.bl k] ∧ Q (.int (if k then 1 else 0)) H
theorem cr_intB : CallR X (.type "int") rIntB := call_int1
def rListOf (K : PySem.W.Frag) : List V → Hp → VK → Prop := fun xs H Q => ∃ p ys, xs = [.ref p] ∧ (SqL K H p ys ∨ SqT K H p ys) ∧ ∀ l, H l = none → Q (.ref l) (upd H l (.lst ys))
theorem cr_list : CallR X (.type "list") (rListOf X.K) := call_list_of
def rTupOf (K : PySem.W.Frag) : List V → Hp → VK → Prop := fun xs H Q => ∃ p ys, xs = [.ref p] ∧ ((SqL K H p ys ∧ ∀ l, H l = none → Q (.ref l) (upd H l (.tup ys))) ∨ (SqT K H p ys ∧ Q (.ref p) H))
theorem cr_tuple : CallR X (.type "tuple") (rTupOf X.K) := call_tuple_of
variable {K : PySem.W.Frag} {H : Hp} {Q : VK} {p : Addr} {xs ys : List V} {i : Int} {σ : L2.St} {te : TE} {n : Nat}
theorem w_intB {b : Bool} (q : Q (.int (if b then 1 else 0)) H) : rIntB [.bl b] H Q := .inr ⟨b, rfl, q⟩
variable {ta : TA} {tu : TS} {tt : TT} {D : Ends} {j : Nat} {g : TG} {vs : List Nat} {R : It → Hp → Prop} {a : Addr}
end
/-- by size, then rising -/
def faceLe (p q : List Int) : Bool := decide (p.length < q.length ∨ (p.length = q.length ∧ p ≤ q))
section
variable {K : PySem.W.Frag} {H H' : Hp} {Q : VK} {a b p : Addr} {xs ys : List V} {S : List Addr} {lo hi : Option Int} {f : Addr} {w : World}
/-- at l a list of the tuples fs -/
def LT (K : PySem.W.Frag) (H : Hp) (l : Addr) (fs : List (List Int)) : Prop := ∃ bs : List (Addr × List Int), H l = some (.lst (bs.map fun b => .ref b.1)) ∧ (∀ b ∈ bs, SqT K H b.1 (b.2.map V.int)) ∧ bs.map (·.2) = fs
theorem Ch.sqts {bs : List (Addr × List Int)} (c : Ch S H H') (h : ∀ b ∈ bs, SqT K H b.1 (b.2.map V.int)) : ∀ b ∈ bs, SqT K H' b.1 (b.2.map V.int) := fun b hb => c.sqt (h b hb)
theorem LT.keep {fs : List (List Int)} (h : LT K H a fs) (c : Ch [] H H') : LT K H' a fs := let ⟨bs, h1, h2, h3⟩ := h; ⟨bs, c.lst h1, c.sqts h2, h3⟩
theorem dp_tup {t : Addr} {ns : List Int} (h : SqT K H t (ns.map V.int)) : Dp K H (.ref t) (.tuple (ns.map .int)) := by
  have allInts : ∀ ns : List Int, DpAll K H (ns.map V.int) (ns.map PyData.int) := fun ns => by
    induction ns with
    | nil => exact .nil
    | cons n ns ih => exact .cons (.int n) ih
  exact .tup h (allInts ns)
def encT (f : List Int) : PyData := .tuple (f.map .int)
theorem dp_refs : ∀ {bs : List (Addr × List Int)}, (∀ b ∈ bs, SqT K H b.1 (b.2.map V.int)) → DpAll K H (bs.map fun b => V.ref b.1) ((bs.map (·.2)).map encT)
  | [], _ => .nil
  | b :: bs, h => .cons (dp_tup (h b List.mem_cons_self)) (dp_refs fun x hx => h x (List.mem_cons_of_mem _ hx))
theorem LT.dp {fs : List (List Int)} (h : LT K H a fs) : Dp K H (.ref a) (.list (fs.map encT)) := by
  obtain ⟨bs, h1, h2, rfl⟩ := h
  exact .lst (SqL.of h1) (dp_refs h2)
theorem depthAll_le {m : Nat} : ∀ {xs : List PyData}, (∀ x ∈ xs, x.depth ≤ m) → PyData.depthAll xs ≤ m
  | [], _ => by simp [PyData.depthAll]
  | x :: xs, h => by
    have h1 := h x List.mem_cons_self
    have h2 := depthAll_le (xs := xs) fun y hy => h y (List.mem_cons_of_mem _ hy)
    simp only [PyData.depthAll]
    omega
end
def tLe (p q : List Int) : Bool := decide (p ≤ q)
theorem units65 {k : Nat} {A : PySem.Around} (r : Room k A) : A.units + 65 < PySem.cLine := by have := r.un; omega
section
variable {K : PySem.W.Frag} {H H' : Hp} {Q : VK} {a b l p t : Addr} {xs ys : List V} {S : List Addr} {ns ms : List Int} {c i : Int} {w : World} {P : Program} {σ : L2.St} {te : TE}
theorem inV_int (c : Int) : ∀ ns : List Int, inV (.int c) (ns.map V.int) = decide (c ∈ ns)
  | [] => by simp [inV]
  | n :: ns => by
    have e : eqV (.int n) (.int c) = decide (n = c) := by rw [Bool.eq_iff_iff]; simp [eqV]
    have ih := inV_int c ns
    unfold inV at ih ⊢
    rw [List.map_cons, List.any_cons, ih, e]
    by_cases h : n = c
    · subst h
      simp
    · have h2 : ¬ c = n := fun z => h z.symm
      simp [h, h2]
theorem flat_ints (ns : List Int) : (ns.map V.int).all flatV = true := by
  rw [List.all_map, List.all_eq_true]
  intro _ _
  rfl
def Shp (K : PySem.W.Frag) (H : Hp) (t : Addr) (ps : List (List Int)) : Prop := ∃ bs : List (Addr × List Int), SqT K H t (bs.map fun b => .ref b.1) ∧ (∀ b ∈ bs, SqT K H b.1 (b.2.map V.int)) ∧ bs.map (·.2) = ps
theorem Shp.keep {ps : List (List Int)} (h : Shp K H t ps) (c : Ch S H H') : Shp K H' t ps := let ⟨bs, h1, h2, h3⟩ := h; ⟨bs, c.sqt h1, c.sqts h2, h3⟩
theorem LT.lst {fs : List (List Int)} (h : LT K H l fs) : ∃ xs, H l = some (.lst xs) := let ⟨_, e, _⟩ := h; ⟨_, e⟩
theorem LT.ne {fs : List (List Int)} (h : LT K H l fs) (n : H p = none) : l ≠ p := let ⟨_, e, _⟩ := h; ne_new e n
theorem Shp.len {ps : List (List Int)} (h : Shp K H t ps) : ∃ xs, SqT K H t xs ∧ xs.length = ps.length := let ⟨bs, h1, _, h3⟩ := h; ⟨_, h1, by rw [← h3, List.length_map, List.length_map]⟩
end
section
variable {prog : Program} {w : World} {A : Around} {E : Value → Shared → Prop} {s : Shared}
theorem collect_tup {l : Addr} {vs : List Value} {Q : List Value → Shared → Prop} (hl : s.heap.IsTuple l vs.toArray)
    (h : Q vs { s with heap := (s.heap.push (seqObj "list" #[] 0)).update s.heap.objs.size (Obj.mapSeq (· ++ vs.toArray)) }) (hsz : vs.length ≤ sizeLine) :
    wpAny (model prog w) A (collect (.ref l)) Q E s := by
  obtain ⟨o, ho, hc, n, hd⟩ := id hl
  unfold collect
  refine wpAny_bind (wpAny_runValue (codeAny_builtin entry_proto_collect' ?_))
  show wpAny _ _ (do again (.builtin "list.__iadd__" ⟨[← newList [], .ref l], []⟩)) _ _ s
  refine wpAny_bind (wpAny_newList (wpAny_pure ⟨Code.quiet_builtin _ (by decide +kernel), codeAny_builtin entry_list_iadd' ?_⟩))
  show wpAny _ _ (Builtin.List.listExtendWith (.ref s.heap.objs.size) (.ref l) (.ref s.heap.objs.size)) _ _ { s with heap := s.heap.push (seqObj "list" #[] 0) }
  unfold Builtin.List.listExtendWith
  have ho' : (s.heap.push (seqObj "list" #[] 0)).get? l = some o := Heap.get?_push_of_some _ ho
  refine wpAny_bind (wpAny_typeOf (T := "tuple") ⟨o, ho', hc⟩ ?_)
  have ht : (Value.type "tuple" == Value.type "tuple") = true := by rfl
  rw [if_pos (by rw [ht]; simp)]
  refine wpAny_bind (listItems_at ho' hd ?_)
  refine wpAny_bind (listItems_at (xs := #[]) (n := 0) (Heap.get?_push_size _ rfl) rfl ?_)
  rw [if_neg (by simp)]
  refine wpAny_bind (listUpdate_at (xs := #[]) (n := 0) (Heap.get?_push_size _ rfl) rfl ?_ (Nat.zero_le _) (by show (#[] ++ vs.toArray).size ≤ sizeLine + 1; simp only [Array.size_append, List.size_toArray, List.length_nil]; omega))
  refine wpAny_pure ?_
  show wpAny (model prog w) A (do
      let o ← load s.heap.objs.size
      match o.data with
      | .seq xs _ => pure xs.toList
      | _ => unsupported "internal:collect") Q E { s with heap := (s.heap.push (seqObj "list" #[] 0)).update s.heap.objs.size (Obj.mapSeq (· ++ vs.toArray)) }
  refine wpAny_bind (wpAny_load (get?_update_seq (Heap.get?_push_size _ rfl) _) ?_)
  show wpAny _ _ (pure ((#[] : Array Value) ++ vs.toArray).toList) Q E _
  rw [show ((#[] : Array Value) ++ vs.toArray).toList = vs by simp]
  exact wpAny_pure h
theorem sorted_valsT {l : Addr} {vs : List Value} {κ : PyProof.Rows.KeyKind} {Q : Value → Shared → Prop} (hl : s.heap.IsTuple l vs.toArray) (S : PySem.W.SortsAt prog w A.in1.in1 { s with heap := PySem.W.sortingHeap (PySem.W.copyHeap s.heap vs) (s.heap.objs.size + 1) vs } κ vs) (hL : vs.length ≤ sizeLine)
    (h : Q (.ref (s.heap.objs.size + 1)) { s with heap := sortedAll s.heap vs (PySem.W.sortVals κ false vs vs).toArray }) : wpAny (model prog w) A (call (.builtin "sorted") [.ref l]) Q E s := by
  refine Calls.call_function_entry kind_sorted plain_sorted entry_sorted (args_sorted1 _) ?_
  unfold Builtin.«sorted»
  refine wpAny_bind (m := checkCount "sorted" 1 1 _) (wpAny_pure ?_)
  refine wpAny_bind (collect_tup hl ?_ hL)
  refine wpAny_bind (wpAny_newList ?_ hL)
  have hsz : ((s.heap.push (seqObj "list" #[] 0)).update s.heap.objs.size (Obj.mapSeq (· ++ vs.toArray))).objs.size = s.heap.objs.size + 1 := by
    rw [Heap.size_update, size_push']
  show wpAny _ _ _ _ _ { s with heap := PySem.W.copyHeap s.heap vs }
  rw [hsz]
  refine wpAny_bind (wpAny_holding (wpAny_call_entry slot_list_sort ⟨_, PySem.W.copyHeap_at s.heap vs, rfl⟩ entry_list_sort (PySem.W.list_sort_vals (s := { s with heap := PySem.W.copyHeap s.heap vs }) (PySem.W.copyHeap_at s.heap vs) S hL ⟨.none, rfl, ?_⟩) (args_list_sort _)))
  exact wpAny_pure ⟨_, rfl, h⟩
end
def leI (a b : Int) : Bool := decide (a ≤ b)
def rSortTI (K : PySem.W.Frag) : List V → Hp → VK → Prop := fun vs H Q => ∃ (a : Addr) (ns : List Int), vs = [.ref a] ∧ SqT K H a (ns.map V.int) ∧ ns.length ≤ 1000000 ∧ New H (.lst ((ns.mergeSort leI).map V.int)) Q
section
variable {X : Cx}
theorem each_ints : ∀ {ns : List Int} {its : List Value}, Vals (ns.map V.int) its → PySem.W.EachIs (fun v (b : Int) => RelV (.int b) v) its ns
  | [], _, r => by
    cases r
    exact .nil
  | b :: bs, _, r => by
    cases r with
    | cons r1 r2 => exact .cons r1 (each_ints r2)
theorem ints_each : ∀ {ns : List Int} {its : List Value}, PySem.W.EachIs (fun v (b : Int) => RelV (.int b) v) its ns → Vals (ns.map V.int) its
  | _, _, .nil => .nil
  | _, _, .cons r1 r2 => .cons r1 (ints_each r2)
theorem ints_reads {h : Heap} : ∀ {ns : List Int} {its : List Value}, PySem.W.EachIs (fun v (b : Int) => RelV (.int b) v) its ns → PySem.W.EachIs (fun v (b : Int) => ∃ as, Reads h v (.int b) as) its ns
  | _, _, .nil => .nil
  | _, _, .cons ⟨t, e⟩ r2 => .cons ⟨[], e ▸ Reads.int _ _⟩ (ints_reads r2)
theorem cr_sortTI (hu : X.A.units + 64 < cLine) : CallR X (.builtin "sorted") (rSortTI X.K) := by
  intro pins s σ H vs us Q I r h
  obtain ⟨a, ns, rfl, hq, hz, q⟩ := h
  rw [Vals.ref1 r]
  obtain ⟨its, rv, hl, _⟩ := I.tuple hq
  have e := each_ints rv
  have hL : its.length ≤ sizeLine := by rw [e.length, sizeLine_eq]; omega
  have er' := ints_reads (h := PySem.W.sortingHeap (PySem.W.copyHeap s.heap its) (s.heap.objs.size + 1) its) e
  have hal : PySem.W.AllAlike (ns.map PyData.int) := by
    intro d hd d' hd'
    obtain ⟨b, _, rfl⟩ := List.mem_map.mp hd
    obtain ⟨b', _, rfl⟩ := List.mem_map.mp hd'
    rfl
  refine sorted_valsT hl (PySem.W.SortsAt.data (s := { s with heap := PySem.W.sortingHeap (PySem.W.copyHeap s.heap its) (s.heap.objs.size + 1) its })
    (PySem.W.each_map (R := fun v d => ∃ as, Reads (PySem.W.sortingHeap (PySem.W.copyHeap s.heap its) (s.heap.objs.size + 1) its) v d as) PyData.int er') hal (.inr fun d hd => ?_) (fun d hd => ?_)) hL ?_
  · obtain ⟨b, _, rfl⟩ := List.mem_map.mp hd
    exact ⟨(fun z => nomatch z), (fun xs z => nomatch z)⟩
  · obtain ⟨b, _, rfl⟩ := List.mem_map.mp hd
    have h2 : X.A.in1.in1.units = X.A.units + 2 := rfl
    have h3 : (PyData.int b).depth = 0 := by simp [PyData.depth]
    omega
  have eo := PySem.W.sortVals_data false e er' hal
  generalize PySem.W.sortVals (PySem.W.dataKind (PySem.W.sortingHeap (PySem.W.copyHeap s.heap its) (s.heap.objs.size + 1) its) (ns.map PyData.int)) false its its = out at eo ⊢
  have e2 : PySem.W.dataLe false PyData.int = leI := PySem.W.dataLe_int id
  rw [e2] at eo
  have hf : H (s.heap.objs.size + 1) = none := I.hok.fresh (Nat.le_succ _)
  refine ⟨.ref (s.heap.objs.size + 1), _, I.laid (t' := s.toks) (fun b o eb => sortedAll_old eb) (Nat.le_succ _) ?_, rfl, q _ hf⟩
  obtain ⟨c, hc⟩ := sortedAll_at s.heap its out.toArray
  exact ⟨by rw [List.length_map, List.length_mergeSort, sizeLine_eq]; omega, out, c, ints_each eo, hc⟩
variable {K : PySem.W.Frag} {H : Hp} {Q : VK} {a : Addr} {ns : List Int}
end
abbrev Sg := L2.St
def Sub (G H : Hp) : Prop := ∀ b o, G b = some o → H b = some o
def hide (H : Hp) (L : Addr) : Hp := fun b => if b = L then none else H b
section
variable {G G' G'' H H' H'' : Hp} {L L' b : Addr} {o u : HO}
theorem Sub.refl : Sub G G := fun _ _ h => h
theorem Sub.trans (a : Sub G G') (b : Sub G' G'') : Sub G G'' := fun x o h => b x o (a x o h)
theorem Sub.ne (a : Sub G H) (h : G b ≠ none) : H b ≠ none := by
  cases e : G b with
  | none => exact absurd e h
  | some o => rw [a b o e]; intro z; cases z
theorem Sub.no (a : Sub G H) (h : H b = none) : G b = none := by
  cases e : G b with
  | none => rfl
  | some o => rw [a b o e] at h; cases h
theorem hide_same : hide H L L = none := if_pos rfl
theorem hide_ne (h : b ≠ L) : hide H L b = H b := if_neg h
theorem hide_sub : Sub (hide H L) H := fun b o h => by
  by_cases e : b = L
  · subst e; rw [hide_same] at h; cases h
  · rwa [hide_ne e] at h
theorem hide_some (h : hide H L b = some o) : b ≠ L ∧ H b = some o := by
  by_cases e : b = L
  · subst e; rw [hide_same] at h; cases h
  · exact ⟨e, by rwa [hide_ne e] at h⟩
theorem Sub.hide (a : Sub H H') : Sub (hide H L) (hide H' L) := fun b o h => by
  obtain ⟨n, e⟩ := hide_some h
  rw [hide_ne n]; exact a b o e
theorem sub_hide (a : Sub G H) (h : G L = none) : Sub G (Ws.hide H L) := fun b o e => by
  have n : b ≠ L := fun z => by subst z; rw [h] at e; cases e
  rw [hide_ne n]; exact a b o e
theorem hide_upd : hide (upd H L o) L = hide H L := by
  funext b
  by_cases e : b = L
  · subst e; rw [hide_same, hide_same]
  · rw [hide_ne e, hide_ne e, upd_ne e]
theorem hide_comm : hide (hide H L) L' = hide (hide H L') L := by
  funext b
  unfold hide
  by_cases e : b = L <;> by_cases e' : b = L' <;> simp [e, e']
theorem hide_none (h : H L = none) : hide H L = H := by
  funext b
  by_cases e : b = L
  · subst e; rw [hide_same, h]
  · rw [hide_ne e]
theorem sub_upd (h : H L = none) : Sub H (upd H L o) := fun b u e => by
  rw [upd_ne (ne_of_none e h)]; exact e
theorem upd_sub (a : Sub G H) (h : H L = some o) : Sub (upd G L o) H := fun b u e => by
  by_cases n : b = L
  · subst n; rw [upd_same] at e; cases e; exact h
  · rw [upd_ne n] at e; exact a b u e
theorem upd_upd_sub (a : Sub G H) : Sub (upd G L o) (upd H L o) := fun b u e => by
  by_cases n : b = L
  · subst n; rw [upd_same] at e ⊢; exact e
  · rw [upd_ne n] at e ⊢; exact a b u e
theorem upd_some (h : upd G L o b ≠ none) : b = L ∨ G b ≠ none := by
  by_cases n : b = L
  · exact .inl n
  · rw [upd_ne n] at h; exact .inr h
end
/-- all tuples are frozen -/
def Tps (G H : Hp) : Prop := ∀ b xs, H b = some (.tup xs) → G b = some (.tup xs)
/-- a pure step: only new objects, of which some are frozen -/
structure Stp (G H G' H' : Hp) : Prop where
  g : Sub G G'
  h : Sub H H'
  i : Sub G' H'
  n : ∀ b, H b ≠ none → G' b ≠ none → G b ≠ none
  t : Tps G H → Tps G' H'
theorem Stp.refl {G H : Hp} (i : Sub G H) : Stp G H G H := ⟨.refl, .refl, i, fun _ _ h => h, id⟩
theorem Stp.trans {G H G1 H1 G2 H2 : Hp} (a : Stp G H G1 H1) (b : Stp G1 H1 G2 H2) : Stp G H G2 H2 :=
  ⟨a.g.trans b.g, a.h.trans b.h, b.i, fun x h1 h2 => a.n x h1 (b.n x (a.h.ne h1) h2), fun z => b.t (a.t z)⟩
/-- a new object is laid and frozen -/
theorem Stp.new {G H : Hp} {p : Addr} {o : HO} (i : Sub G H) (h : H p = none) : Stp G H (upd G p o) (upd H p o) :=
  ⟨sub_upd (i.no h), sub_upd h, upd_upd_sub i, fun b h1 h2 => (upd_some h2).elim (fun e => absurd h (e ▸ h1)) id, fun z b xs hb => by
    by_cases e : b = p
    · subst e; rw [upd_same] at hb ⊢; exact hb
    · rw [upd_ne e] at hb ⊢; exact z b xs hb⟩
/-- a new object is laid -/
theorem Tps.put {G H : Hp} {p : Addr} {o : HO} (ho : ∀ xs, o ≠ .tup xs) (z : Tps G H) : Tps G (upd H p o) := fun b xs hb => by
  by_cases e : b = p
  · subst e; rw [upd_same] at hb; cases hb; exact absurd rfl (ho xs)
  · rw [upd_ne e] at hb; exact z b xs hb
theorem Stp.own {G H : Hp} {p : Addr} {o : HO} (i : Sub G H) (h : H p = none) (ho : ∀ xs, o ≠ .tup xs := by intro _ h; cases h) : Stp G H G (upd H p o) :=
  ⟨.refl, sub_upd h, i.trans (sub_upd h), fun _ _ h => h, fun z => z.put ho⟩
/-- the frame of a def: what was frozen, what stood as it began, what it may change -/
structure Frm where
  G0 : Hp
  H0 : Hp
  ws : List Addr
  X : Hp := fun _ => none
  Y : Hp := fun _ => none
/-- one object more is to stay as it is -/
def Frm.lock (F : Frm) (D : Addr) (o : HO) : Frm := { F with X := upd F.X D o }
/-- a dict that is walked -/
def Frm.lockY (F : Frm) (D : Addr) (o : HO) : Frm := { F with Y := upd F.Y D o }
structure IV (F : Frm) (G H : Hp) : Prop where
  gh : Sub G H
  g0 : Sub F.G0 G
  new : ∀ b, F.H0 b ≠ none → G b ≠ none → F.G0 b ≠ none
  fr : ∀ b o, b ∉ F.ws → F.H0 b = some o → H b = some o
  al : ∀ b, F.H0 b ≠ none → H b ≠ none
  xs : Sub F.X H
  xg : ∀ b, F.X b ≠ none → G b = none
  ys : Sub F.Y H
  yg : ∀ b, F.Y b ≠ none → G b = none
  tp : Tps G H
theorem IV.step {F : Frm} {G H G' H' : Hp} (i : IV F G H) (s : Stp G H G' H') : IV F G' H' :=
  ⟨s.i, i.g0.trans s.g, fun b h1 h2 => i.new b h1 (s.n b (i.al b h1) h2), fun b o h1 h2 => s.h b o (i.fr b o h1 h2), fun b h => s.h.ne (i.al b h), i.xs.trans s.h, fun b h => by
    cases z : G' b with
    | none => rfl
    | some o => exact absurd (i.xg b h) (s.n b (i.xs.ne h) (by rw [z]; intro z; cases z)), i.ys.trans s.h, fun b h => by
    cases z : G' b with
    | none => rfl
    | some o => exact absurd (i.yg b h) (s.n b (i.ys.ne h) (by rw [z]; intro z; cases z)), s.t i.tp⟩
theorem IV.lock {F : Frm} {G H : Hp} {D : Addr} {o : HO} (i : IV F G H) (h : H D = some o) (g : G D = none) : IV (F.lock D o) G H :=
  ⟨i.gh, i.g0, i.new, i.fr, i.al, upd_sub i.xs h, fun b hb => (upd_some hb).elim (fun e => e ▸ g) (i.xg b), i.ys, i.yg, i.tp⟩
theorem IV.unlock {F : Frm} {G H : Hp} {D : Addr} {o : HO} (i : IV (F.lock D o) G H) (h : F.X D = none) : IV F G H ∧ H D = some o ∧ G D = none :=
  ⟨⟨i.gh, i.g0, i.new, i.fr, i.al, (sub_upd h).trans i.xs, fun b hb => i.xg b ((sub_upd h).ne hb), i.ys, i.yg, i.tp⟩, i.xs D o upd_same, i.xg D (by show upd F.X D o D ≠ none; rw [upd_same]; intro z; cases z)⟩
def ownN : Frm → Addr → Prop := fun F L => F.H0 L = none ∧ F.X L = none ∧ F.Y L = none
def ownI (k : Nat) : Frm → Addr → Prop := fun F L => F.ws[k]? = some L ∧ F.X L = none ∧ F.Y L = none
inductive A2 {α β : Type} (R : α → β → Prop) : List α → List β → Prop
  | nil : A2 R [] []
  | cons {a b as bs} (h : R a b) (t : A2 R as bs) : A2 R (a :: as) (b :: bs)
section
variable {α β γ : Type} {R S : α → β → Prop} {as as' : List α} {bs bs' : List β}
theorem A2.mono (h : A2 R as bs) (k : ∀ a b, R a b → S a b) : A2 S as bs := by
  induction h with
  | nil => exact .nil
  | cons h _ ih => exact .cons (k _ _ h) ih
theorem A2.length (h : A2 R as bs) : as.length = bs.length := by
  induction h with
  | nil => rfl
  | cons _ _ ih => simp [ih]
theorem A2.app (h : A2 R as bs) (h' : A2 R as' bs') : A2 R (as ++ as') (bs ++ bs') := by
  induction h with
  | nil => exact h'
  | cons h _ ih => exact .cons h ih
theorem A2.get {i : Nat} {b : β} (h : A2 R as bs) (e : bs[i]? = some b) : ∃ a, as[i]? = some a ∧ R a b := by
  induction h generalizing i with
  | nil => simp at e
  | cons h _ ih =>
    cases i with
    | zero => simp at e; subst e; exact ⟨_, rfl, h⟩
    | succ i => simpa using ih (by simpa using e)
theorem A2.take {n : Nat} (h : A2 R as bs) : A2 R (as.take n) (bs.take n) := by
  induction h generalizing n with
  | nil => simp; exact .nil
  | cons h _ ih =>
    cases n with
    | zero => exact .nil
    | succ n => exact .cons h ih
theorem A2.drop {n : Nat} (h : A2 R as bs) : A2 R (as.drop n) (bs.drop n) := by
  induction h generalizing n with
  | nil => simp; exact .nil
  | cons h t ih =>
    cases n with
    | zero => exact .cons h t
    | succ n => exact ih
theorem A2.set {n : Nat} {a : α} {b : β} (h : A2 R as bs) (r : R a b) : A2 R (as.set n a) (bs.set n b) := by
  induction h generalizing n with
  | nil => exact .nil
  | cons h t ih =>
    cases n with
    | zero => exact .cons r t
    | succ n => exact .cons h ih
theorem A2.ofMap {f : β → α} (h : ∀ b ∈ bs, R (f b) b) : A2 R (bs.map f) bs := by
  induction bs with
  | nil => exact .nil
  | cons b bs ih => exact .cons (h b List.mem_cons_self) (ih fun x hx => h x (List.mem_cons_of_mem _ hx))
theorem A2.eqMap {f : β → α} (h : A2 (fun a b => a = f b) as bs) : as = bs.map f := by
  induction h with
  | nil => rfl
  | cons h _ ih => rw [h, ih]; rfl
theorem A2.eraseIdx {n : Nat} (h : A2 R as bs) : A2 R (as.eraseIdx n) (bs.eraseIdx n) := by
  induction h generalizing n with
  | nil => exact .nil
  | cons h t ih =>
    cases n with
    | zero => exact t
    | succ n => exact .cons h ih
end
/-- frozen data: ν is what it stands for on the machine's side -/
structure GR (ν α : Type) where
  rel : PySem.W.Frag → Hp → ν → α → Prop
  mono : ∀ {K G G' v a}, Sub G G' → rel K G v a → rel K G' v a
abbrev Rep := GR V
/-- what stands at an address -/
abbrev ORep := GR HO
def rI : Rep Int := ⟨fun _ _ v i => v = .int i, fun _ h => h⟩
def rB : Rep Bool := ⟨fun _ _ v b => v = .bl b, fun _ h => h⟩
def rS : Rep Str := ⟨fun _ _ v z => v = .str z, fun _ h => h⟩
def rN : Rep Unit := ⟨fun _ _ v _ => v = .non, fun _ h => h⟩
/-- None or a thing -/
def rO {α : Type} (r : Rep α) : Rep (Option α) := ⟨fun K G v a => match a with | none => v = .non | some x => v ≠ .non ∧ r.rel K G v x, fun {K G G' v a} s h => by
  cases a with
  | none => exact h
  | some x => exact ⟨h.1, r.mono s h.2⟩⟩
/-- a frozen object -/
def rz {α : Type} (q : ORep α) : Rep α := ⟨fun K G v a => ∃ L ho, v = .ref L ∧ G L = some ho ∧ q.rel K G ho a, fun s ⟨L, ho, h1, h2, h3⟩ => ⟨L, ho, h1, s _ _ h2, q.mono s h3⟩⟩
def oL {α : Type} (r : Rep α) : ORep (List α) := ⟨fun K G ho xs => ∃ vs, ho = .lst vs ∧ A2 (r.rel K G) vs xs, fun s ⟨vs, h1, h2⟩ => ⟨vs, h1, h2.mono fun _ _ => r.mono s⟩⟩
def oT {α : Type} (r : Rep α) : ORep (List α) := ⟨fun K G ho xs => ∃ vs, ho = .tup vs ∧ A2 (r.rel K G) vs xs, fun s ⟨vs, h1, h2⟩ => ⟨vs, h1, h2.mono fun _ _ => r.mono s⟩⟩
abbrev rL {α : Type} (r : Rep α) : Rep (List α) := rz (oL r)
abbrev rT {α : Type} (r : Rep α) : Rep (List α) := rz (oT r)
/-- a tuple, a list of two things -/
def oT2 {α β : Type} (r : Rep α) (s : Rep β) : ORep (α × β) := ⟨fun K G ho p => ∃ v w, ho = .tup [v, w] ∧ r.rel K G v p.1 ∧ s.rel K G w p.2, fun u ⟨v, w, h1, h2, h3⟩ => ⟨v, w, h1, r.mono u h2, s.mono u h3⟩⟩
def oL2 {α β : Type} (r : Rep α) (s : Rep β) : ORep (α × β) := ⟨fun K G ho p => ∃ v w, ho = .lst [v, w] ∧ r.rel K G v p.1 ∧ s.rel K G w p.2, fun u ⟨v, w, h1, h2, h3⟩ => ⟨v, w, h1, r.mono u h2, s.mono u h3⟩⟩
def oT3 {α β γ : Type} (r : Rep α) (s : Rep β) (t : Rep γ) : ORep (α × β × γ) := ⟨fun K G ho p => ∃ v w x, ho = .tup [v, w, x] ∧ r.rel K G v p.1 ∧ s.rel K G w p.2.1 ∧ t.rel K G x p.2.2, fun u ⟨v, w, x, h1, h2, h3, h4⟩ => ⟨v, w, x, h1, r.mono u h2, s.mono u h3, t.mono u h4⟩⟩
def oL3 {α β γ : Type} (r : Rep α) (s : Rep β) (t : Rep γ) : ORep (α × β × γ) := ⟨fun K G ho p => ∃ v w x, ho = .lst [v, w, x] ∧ r.rel K G v p.1 ∧ s.rel K G w p.2.1 ∧ t.rel K G x p.2.2, fun u ⟨v, w, x, h1, h2, h3, h4⟩ => ⟨v, w, x, h1, r.mono u h2, s.mono u h3, t.mono u h4⟩⟩
abbrev rT2 {α β : Type} (r : Rep α) (s : Rep β) : Rep (α × β) := rz (oT2 r s)
abbrev rT3 {α β γ : Type} (r : Rep α) (s : Rep β) (t : Rep γ) : Rep (α × β × γ) := rz (oT3 r s t)
/-- the script: a list that is read and never written -/
def rScr : Rep (List Int) := ⟨fun K G v xs => ∃ a, v = .ref a ∧ Fz K G a (xs.map V.int), fun {K G G' v a} s ⟨p, h1, h2⟩ => ⟨p, h1, by
  rcases h2 with ⟨o, h⟩ | h
  · exact .inl ⟨o, s _ _ h⟩
  · exact .inr h⟩⟩
def bR : GR Bool Bool := ⟨fun _ _ b a => b = a, fun _ h => h⟩
def ioR : GR (Option Int) (Option Int) := ⟨fun _ _ b a => b = a, fun _ h => h⟩
structure Xc where
  name : Str
  fld : Option (Str × Int) := none
inductive Rs (ε α : Type) where
  | ok (a : α) (e : ε) | ex (c : Xc) (e : ε) | bad
inductive So (ε ρ : Type) where
  | nx (e : ε) | rt (a : ρ) (e : ε) | bk (e : ε) | ct (e : ε) | ex (c : Xc) (e : ε) | bad
def Rs.bind {ε α β : Type} (x : Rs ε α) (f : α → ε → Rs ε β) : Rs ε β := match x with
  | .ok a e => f a e | .ex c e => .ex c e | .bad => .bad
def Rs.of {ε α : Type} (o : Option α) (e : ε) : Rs ε α := match o with
  | some a => .ok a e | none => .bad
def Rs.so {ε α ρ : Type} (x : Rs ε α) (f : α → ε → So ε ρ) : So ε ρ := match x with
  | .ok a e => f a e | .ex c e => .ex c e | .bad => .bad
section
variable {ε α β ρ : Type} {a : α} {e : ε} {c : Xc} {f : α → ε → Rs ε β} {g : α → ε → So ε ρ}
@[simp] theorem Rs.bind_ok : (Rs.ok a e).bind f = f a e := rfl
@[simp] theorem Rs.bind_ex : (Rs.ex c e : Rs ε α).bind f = .ex c e := rfl
@[simp] theorem Rs.bind_bad : (Rs.bad : Rs ε α).bind f = .bad := rfl
@[simp] theorem Rs.so_ok : (Rs.ok a e).so g = g a e := rfl
@[simp] theorem Rs.so_ex : (Rs.ex c e : Rs ε α).so g = .ex c e := rfl
@[simp] theorem Rs.so_bad : (Rs.bad : Rs ε α).so g = .bad := rfl
@[simp] theorem Rs.of_some : Rs.of (some a) e = .ok a e := rfl
@[simp] theorem Rs.of_none : Rs.of (none : Option α) e = .bad := rfl
end
/-- what a def runs in: its written part, what is wanted of what is raised, the classes -/
structure Mx where
  K : PySem.W.Frag
  E : XK
  cx : Str → Addr
def xr (M : Mx) (G : Hp) (c : Xc) (cls : Value) (d : Option Addr) : Prop := cls = .ref (M.cx c.name) ∧ match c.fld with
  | none => d = none
  | some (f, i) => ∃ dd, d = some dd ∧ G dd = some (.xd [(f, .int i)])
/-- the names of a def -/
structure ERep (ε : Type) where
  rel : PySem.W.Frag → Frm → Hp → Hp → Sg → ε → Prop
  mono : ∀ {K F G G' H H' σ e}, Sub G G' → Sub H H' → (∀ b, H b ≠ none → G' b ≠ none → G b ≠ none) → rel K F G H σ e → rel K F G' H' σ e
  lock : ∀ {K F G H σ e D o}, rel K F G (hide H D) σ e → rel K (F.lock D o) G H σ e
  unlock : ∀ {K F G H σ e D o}, rel K (F.lock D o) G H σ e → rel K F G (hide H D) σ e
/-- how a result is held: frozen, or a new object of one's own; the last heap: without it -/
structure RS (ν α : Type) where
  rel : PySem.W.Frag → Frm → Hp → Hp → ν → α → Hp → Prop
def fz {ν α : Type} (r : GR ν α) : RS ν α := ⟨fun K _ G H v a H1 => r.rel K G v a ∧ H1 = H⟩
def fs {α : Type} (q : ORep α) : RS V α := ⟨fun K F G H v a H1 => ∃ L ho, v = .ref L ∧ H L = some ho ∧ G L = none ∧ ownN F L ∧ q.rel K G ho a ∧ H1 = hide H L⟩
section
variable {ν ν' α β γ ε ρ : Type}
def Post (M : Mx) (R : ERep ε) (F : Frm) (G : Hp) (σ : Sg) (rs : RS ν α) (Q : ν → Hp → Prop) : Rs ε α → Prop
  | .ok a e' => ∀ v G' H' H1, IV F G' H' → Sub G G' → rs.rel M.K F G' H' v a H1 → R.rel M.K F G' H1 σ e' → Q v H'
  | .ex c e' => ∀ cls d G' H', IV F G' H' → Sub G G' → R.rel M.K F G' H' σ e' → xr M G' c cls d → M.E cls d H'
  | .bad => False
/-- the reading t computes m -/
def EX (M : Mx) (R : ERep ε) (t : Sg → Hp → (ν → Hp → Prop) → Prop) (rs : RS ν α) (m : ε → Rs ε α) : Prop :=
  ∀ F G H σ e, IV F G H → R.rel M.K F G H σ e → ∀ Q, Post M R F G σ rs Q (m e) → t σ H Q
variable {M : Mx} {R : ERep ε} {F : Frm} {G G1 H : Hp} {σ : Sg} {Q : ν → Hp → Prop} {Q' : ν' → Hp → Prop}
theorem Post.up {rs : RS ν α} {x : Rs ε α} (h : Post M R F G σ rs Q x) (s : Sub G G1) : Post M R F G1 σ rs Q x := by
  cases x with
  | ok a e => exact fun v G' H' H1 i z => h v G' H' H1 i (s.trans z)
  | ex c e => exact fun cls d G' H' i z => h cls d G' H' i (s.trans z)
  | bad => exact h
theorem Post.bind {rr : RS ν α} {rs : RS ν' β} {x : Rs ε α} {f : α → ε → Rs ε β} (h : Post M R F G σ rs Q' (x.bind f)) (hz : ∀ K F G H v a H1, rr.rel K F G H v a H1 → H1 = H)
    (k : ∀ v a e1 G1 H1, IV F G1 H1 → Sub G G1 → R.rel M.K F G1 H1 σ e1 → rr.rel M.K F G1 H1 v a H1 → Post M R F G1 σ rs Q' (f a e1) → Q v H1) : Post M R F G σ rr Q x := by
  cases x with
  | ok a e =>
    rintro v G' H' H1 i s hr hR
    obtain rfl := hz _ _ _ _ _ _ _ hr
    exact k v a e G' _ i s hR hr (Post.up h s)
  | ex c e => exact h
  | bad => exact h
/-- what a rule by values may ask of a value, as the heap stands -/
abbrev IR (ν α : Type) := PySem.W.Frag → Hp → Hp → ν → α → Prop
def ir {ν α : Type} (r : GR ν α) : IR ν α := fun K G _ v a => r.rel K G v a
/-- an object that is read as it stands -/
def rd {α : Type} (q : ORep α) : IR V α := fun K G H v a => ∃ L ho, v = .ref L ∧ H L = some ho ∧ q.rel K G ho a
def is {ν α : Type} (i : IR ν α) : RS ν α := ⟨fun K _ G H v a H1 => i K G H v a ∧ H1 = H⟩
/-- frozen, it may be read -/
def Cv {ν α : Type} (r : GR ν α) (i : IR ν α) : Prop := ∀ K G H v a, Sub G H → r.rel K G v a → i K G H v a
theorem Cv.id {ν α : Type} {r : GR ν α} : Cv r (ir r) := fun _ _ _ _ _ _ h => h
theorem Cv.ob {α : Type} {q : ORep α} : Cv (rz q) (rd q) := fun _ _ _ _ _ s ⟨L, ho, h1, h2, h3⟩ => ⟨L, ho, h1, s _ _ h2, h3⟩
/-- a rule by values: what it gives is frozen -/
def VR (K : PySem.W.Frag) (T : ν → Hp → (ν' → Hp → Prop) → Prop) (r : IR ν α) (r' : GR ν' β) (g : α → Option β) : Prop :=
  ∀ G H v a b Q, Sub G H → r K G H v a → g a = some b → (∀ v' G' H', Stp G H G' H' → r'.rel K G' v' b → Q v' H') → T v H Q
def VR2 {ν1 ν2 : Type} (K : PySem.W.Frag) (T : ν1 → ν2 → Hp → (ν' → Hp → Prop) → Prop) (r : IR ν1 α) (s : IR ν2 β) (r' : GR ν' γ) (g : α → β → Option γ) : Prop :=
  ∀ G H v w a b c Q, Sub G H → r K G H v a → s K G H w b → g a b = some c → (∀ v' G' H', Stp G H G' H' → r'.rel K G' v' c → Q v' H') → T v w H Q
/-- a rule by values: what it gives is new -/
def VF (K : PySem.W.Frag) (T : ν → Hp → (V → Hp → Prop) → Prop) (r : IR ν α) (q : ORep β) (g : α → Option β) : Prop :=
  ∀ G H v a b Q, Sub G H → r K G H v a → g a = some b → (∀ L ho G' H', Stp G H G' H' → H L = none → G' L = none → H' L = some ho → q.rel K G' ho b → Q (.ref L) H') → T v H Q
def VF2 {ν1 ν2 : Type} (K : PySem.W.Frag) (T : ν1 → ν2 → Hp → (V → Hp → Prop) → Prop) (r : IR ν1 α) (s : IR ν2 β) (q : ORep γ) (g : α → β → Option γ) : Prop :=
  ∀ G H v w a b c Q, Sub G H → r K G H v a → s K G H w b → g a b = some c → (∀ L ho G' H', Stp G H G' H' → H L = none → G' L = none → H' L = some ho → q.rel K G' ho c → Q (.ref L) H') → T v w H Q
/-- the end of a rule by values -/
theorem Post.fin {r' : GR ν' β} {b : β} {e : ε} {Q : ν' → Hp → Prop} (i : IV F G H) (hR : R.rel M.K F G H σ e) (h : Post M R F G σ (fz r') Q (.ok b e)) : ∀ v' G' H', Stp G H G' H' → r'.rel M.K G' v' b → Q v' H' :=
  fun v' G' H' st hr => h v' G' H' H' (i.step st) st.g ⟨hr, rfl⟩ (R.mono st.g st.h st.n hR)
theorem Post.finF {q : ORep β} {b : β} {e : ε} {Q : V → Hp → Prop} (i : IV F G H) (hR : R.rel M.K F G H σ e) (h : Post M R F G σ (fs q) Q (.ok b e)) :
    ∀ L ho G' H', Stp G H G' H' → H L = none → G' L = none → H' L = some ho → q.rel M.K G' ho b → Q (.ref L) H' := fun L ho G' H' st hl gl hl' hq => by
  refine h (.ref L) G' H' (hide H' L) (i.step st) st.g ⟨L, ho, rfl, hl', gl, ⟨?_, i.xs.no hl, i.ys.no hl⟩, hq, rfl⟩ (R.mono st.g (sub_hide st.h hl) st.n hR)
  cases z : F.H0 L with
  | none => rfl
  | some o => exact absurd hl (i.al L (by rw [z]; intro z; cases z))
def mUn (g : α → Option β) (m : ε → Rs ε α) : ε → Rs ε β := fun e => (m e).bind fun a e1 => .of (g a) e1
def mOp (g : α → β → Option γ) (m : ε → Rs ε α) (n : ε → Rs ε β) : ε → Rs ε γ := fun e => (m e).bind fun a e1 => (n e1).bind fun b e2 => .of (g a b) e2
theorem of_some {o : Option β} {e : ε} {rs : RS ν β} (h : Post M R F G σ rs Q (.of o e)) : ∃ b, o = some b ∧ Post M R F G σ rs Q (.ok b e) := by
  cases o with
  | none => exact h.elim
  | some b => exact ⟨b, rfl, h⟩
theorem x_un {t : Sg → Hp → (ν → Hp → Prop) → Prop} {T : ν → Hp → (ν' → Hp → Prop) → Prop} {r : IR ν α} {r' : GR ν' β} {g : α → Option β} {m : ε → Rs ε α} (vr : VR M.K T r r' g) (h : EX M R t (is r) m) :
    EX M R (fun σ H Q => t σ H fun x H1 => T x H1 Q) (fz r') (mUn g m) := fun F G H σ e i hR Q p =>
  h F G H σ e i hR _ (p.bind (fun _ _ _ _ _ _ _ z => z.2) fun v a e1 G1 H1 i1 s1 R1 r1 p1 => by
    obtain ⟨b, hb, p2⟩ := of_some p1
    exact vr G1 H1 v a b Q i1.gh r1.1 hb (p2.fin i1 R1))
theorem x_unF {t : Sg → Hp → (ν → Hp → Prop) → Prop} {T : ν → Hp → (V → Hp → Prop) → Prop} {r : IR ν α} {q : ORep β} {g : α → Option β} {m : ε → Rs ε α} (vr : VF M.K T r q g) (h : EX M R t (is r) m) :
    EX M R (fun σ H Q => t σ H fun x H1 => T x H1 Q) (fs q) (mUn g m) := fun F G H σ e i hR Q p =>
  h F G H σ e i hR _ (p.bind (fun _ _ _ _ _ _ _ z => z.2) fun v a e1 G1 H1 i1 s1 R1 r1 p1 => by
    obtain ⟨b, hb, p2⟩ := of_some p1
    exact vr G1 H1 v a b Q i1.gh r1.1 hb (p2.finF i1 R1))
theorem x_op {ν1 ν2 : Type} {t : Sg → Hp → (ν1 → Hp → Prop) → Prop} {u : Sg → Hp → (ν2 → Hp → Prop) → Prop} {T : ν1 → ν2 → Hp → (ν' → Hp → Prop) → Prop} {r : GR ν1 α} {i1' : IR ν1 α} {s : IR ν2 β} {r' : GR ν' γ} {g : α → β → Option γ} {m : ε → Rs ε α} {n : ε → Rs ε β}
    (vr : VR2 M.K T i1' s r' g) (cv : Cv r i1') (h : EX M R t (fz r) m) (k : EX M R u (is s) n) : EX M R (fun σ H Q => t σ H fun x H1 => u σ H1 fun y H2 => T x y H2 Q) (fz r') (mOp g m n) := fun F G H σ e i hR Q p =>
  h F G H σ e i hR _ (p.bind (fun _ _ _ _ _ _ _ z => z.2) fun v a e1 G1 H1 i1 s1 R1 r1 p1 => k F G1 H1 σ e1 i1 R1 _ (p1.bind (fun _ _ _ _ _ _ _ z => z.2) fun w b e2 G2 H2 i2 s2 R2 r2 p2 => by
    obtain ⟨c, hc, p3⟩ := of_some p2
    exact vr G2 H2 v w a b c Q i2.gh (cv _ _ _ _ _ i2.gh (r.mono s2 r1.1)) r2.1 hc (p3.fin i2 R2)))
theorem x_opF {ν1 ν2 : Type} {t : Sg → Hp → (ν1 → Hp → Prop) → Prop} {u : Sg → Hp → (ν2 → Hp → Prop) → Prop} {T : ν1 → ν2 → Hp → (V → Hp → Prop) → Prop} {r : GR ν1 α} {i1' : IR ν1 α} {s : IR ν2 β} {q : ORep γ} {g : α → β → Option γ} {m : ε → Rs ε α} {n : ε → Rs ε β}
    (vr : VF2 M.K T i1' s q g) (cv : Cv r i1') (h : EX M R t (fz r) m) (k : EX M R u (is s) n) : EX M R (fun σ H Q => t σ H fun x H1 => u σ H1 fun y H2 => T x y H2 Q) (fs q) (mOp g m n) := fun F G H σ e i hR Q p =>
  h F G H σ e i hR _ (p.bind (fun _ _ _ _ _ _ _ z => z.2) fun v a e1 G1 H1 i1 s1 R1 r1 p1 => k F G1 H1 σ e1 i1 R1 _ (p1.bind (fun _ _ _ _ _ _ _ z => z.2) fun w b e2 G2 H2 i2 s2 R2 r2 p2 => by
    obtain ⟨c, hc, p3⟩ := of_some p2
    exact vr G2 H2 v w a b c Q i2.gh (cv _ _ _ _ _ i2.gh (r.mono s2 r1.1)) r2.1 hc (p3.finF i2 R2)))
/-- what is frozen, read as it stands -/
theorem x_is {t : Sg → Hp → (ν → Hp → Prop) → Prop} {r : GR ν α} {i' : IR ν α} {m : ε → Rs ε α} (cv : Cv r i') (h : EX M R t (fz r) m) : EX M R t (is i') m := fun F G H σ e i hR Q p => by
  refine h F G H σ e i hR Q ?_
  revert p
  cases m e with
  | ok a e' => exact fun p v G' H' H1 i1 s1 z R1 => p v G' H' H1 i1 s1 ⟨cv _ _ _ _ _ i1.gh z.1, z.2⟩ R1
  | ex c e' => exact id
  | bad => exact id
/-- what is new, frozen -/
theorem x_fz {t : TE} {q : ORep α} {m : ε → Rs ε α} (h : EX M R t (fs q) m) : EX M R t (fz (rz q)) m := fun F G H σ e i hR Q p => by
  refine h F G H σ e i hR Q ?_
  revert p
  cases m e with
  | ok a e' =>
    rintro p v G' H' H1 i1 s1 ⟨L, ho, rfl, h1, h2, h3, h4, rfl⟩ R1
    have sg : Sub G' (upd G' L ho) := sub_upd h2
    refine p (.ref L) (upd G' L ho) H' H' ⟨upd_sub i1.gh h1, i1.g0.trans sg, fun b hb hn => ?_, i1.fr, i1.al, i1.xs, fun b hb => ?_, i1.ys, fun b hb => ?_, fun b xs hb => sg _ _ (i1.tp b xs hb)⟩ (s1.trans sg) ⟨⟨L, ho, rfl, upd_same, q.mono sg h4⟩, rfl⟩ (R.mono sg hide_sub (fun b hb hn => ?_) R1)
    · rcases upd_some hn with rfl | z
      · exact absurd h3.1 hb
      · exact i1.new b hb z
    · rw [upd_ne (show b ≠ L from fun z => hb (by rw [z]; exact h3.2.1))]
      exact i1.xg b hb
    · rw [upd_ne (show b ≠ L from fun z => hb (by rw [z]; exact h3.2.2))]
      exact i1.yg b hb
    · rcases upd_some hn with rfl | z
      · exact absurd hide_same hb
      · exact z
  | ex c e' => exact id
  | bad => exact id
def mC (a : α) : ε → Rs ε α := fun e => .ok a e
theorem x_c {v : V} {a : α} {r : Rep α} (h : ∀ G, r.rel M.K G v a) : EX M R (tC v) (fz r) (mC a) := fun F G H σ e i hR Q p => p v G H H i .refl ⟨h G, rfl⟩ hR
end
def eNil : ERep Unit := ⟨fun _ _ _ _ σ _ => σ = [], fun _ _ _ h => h, fun h => h, fun h => h⟩
/-- a name that holds frozen data -/
def eFr {α ε : Type} (r : Rep α) (R : ERep ε) : ERep (Option α × ε) :=
  ⟨fun K F G H σ e => ∃ o σ', σ = o :: σ' ∧ (∀ x, e.1 = some x → ∃ v, o = some v ∧ r.rel K G v x) ∧ R.rel K F G H σ' e.2, fun g h n ⟨o, σ', h1, h2, h3⟩ =>
    ⟨o, σ', h1, fun x hx => let ⟨v, a, b⟩ := h2 x hx; ⟨v, a, r.mono g b⟩, R.mono g h n h3⟩,
   fun ⟨o, σ', h1, h2, h3⟩ => ⟨o, σ', h1, h2, R.lock h3⟩, fun ⟨o, σ', h1, h2, h3⟩ => ⟨o, σ', h1, h2, R.unlock h3⟩⟩
/-- a name that holds an object of one's own -/
class OwnP (own : Frm → Addr → Prop) : Prop where
  lock : ∀ {F L D o}, own F L → L ≠ D → own (F.lock D o) L
  unlock : ∀ {F L D o}, own (F.lock D o) L → L ≠ D ∧ own F L
  lockY : ∀ {F L D o}, own F L → L ≠ D → own (F.lockY D o) L
  unlockY : ∀ {F L D o}, own (F.lockY D o) L → L ≠ D ∧ own F L
instance ownN_p : OwnP ownN := by
  refine ⟨fun h n => ⟨h.1, (upd_ne n).trans h.2.1, h.2.2⟩, fun {F L D o} h => ?_, fun h n => ⟨h.1, h.2.1, (upd_ne n).trans h.2.2⟩, fun {F L D o} h => ?_⟩
  · have n : L ≠ D := fun z => by
      have := h.2.1
      rw [z] at this
      exact nomatch (show some o = none from upd_same.symm.trans this)
    exact ⟨n, h.1, (upd_ne n).symm.trans h.2.1, h.2.2⟩
  · have n : L ≠ D := fun z => by
      have := h.2.2
      rw [z] at this
      exact nomatch (show some o = none from upd_same.symm.trans this)
    exact ⟨n, h.1, h.2.1, (upd_ne n).symm.trans h.2.2⟩
instance ownI_p {k : Nat} : OwnP (ownI k) := by
  refine ⟨fun h n => ⟨h.1, (upd_ne n).trans h.2.1, h.2.2⟩, fun {F L D o} h => ?_, fun h n => ⟨h.1, h.2.1, (upd_ne n).trans h.2.2⟩, fun {F L D o} h => ?_⟩
  · have n : L ≠ D := fun z => by
      have := h.2.1
      rw [z] at this
      exact nomatch (show some o = none from upd_same.symm.trans this)
    exact ⟨n, h.1, (upd_ne n).symm.trans h.2.1, h.2.2⟩
  · have n : L ≠ D := fun z => by
      have := h.2.2
      rw [z] at this
      exact nomatch (show some o = none from upd_same.symm.trans this)
    exact ⟨n, h.1, h.2.1, (upd_ne n).symm.trans h.2.2⟩
def eOwP {α ε : Type} (own : Frm → Addr → Prop) [op : OwnP own] (q : ORep α) (R : ERep ε) : ERep (Option α × ε) :=
  ⟨fun K F G H σ e => ∃ o σ', σ = o :: σ' ∧ ((e.1 = none ∧ R.rel K F G H σ' e.2) ∨ ∃ x L ho, e.1 = some x ∧ o = some (.ref L) ∧ H L = some ho ∧ G L = none ∧ own F L ∧ q.rel K G ho x ∧ R.rel K F G (hide H L) σ' e.2), fun {K F G G' H H' σ e} g h n ⟨o, σ', h1, h2⟩ => by
    refine ⟨o, σ', h1, ?_⟩
    rcases h2 with ⟨a, b⟩ | ⟨x, L, ho, a1, a2, a3, a4, a5, a6, a7⟩
    · exact .inl ⟨a, R.mono g h n b⟩
    · refine .inr ⟨x, L, ho, a1, a2, h _ _ a3, ?_, a5, q.mono g a6, R.mono g h.hide (fun b hb hn => n b (hide_sub.ne hb) hn) a7⟩
      cases z : G' L with
      | none => rfl
      | some u => exact absurd a4 (n L (by rw [a3]; intro z; cases z) (by rw [z]; intro z; cases z)),
   fun {K F G H σ e D o'} ⟨o, σ', h1, h2⟩ => by
    refine ⟨o, σ', h1, ?_⟩
    rcases h2 with ⟨a, b⟩ | ⟨x, L, ho, a1, a2, a3, a4, a5, a6, a7⟩
    · exact .inl ⟨a, R.lock b⟩
    · obtain ⟨n, a3'⟩ := hide_some a3
      exact .inr ⟨x, L, ho, a1, a2, a3', a4, op.lock a5 n, a6, R.lock (by rw [hide_comm]; exact a7)⟩,
   fun {K F G H σ e D o'} ⟨o, σ', h1, h2⟩ => by
    refine ⟨o, σ', h1, ?_⟩
    rcases h2 with ⟨a, b⟩ | ⟨x, L, ho, a1, a2, a3, a4, a5, a6, a7⟩
    · exact .inl ⟨a, R.unlock b⟩
    · obtain ⟨n, a5'⟩ := op.unlock a5
      exact .inr ⟨x, L, ho, a1, a2, by rw [hide_ne n]; exact a3, a4, a5', a6, by rw [hide_comm]; exact R.unlock a7⟩⟩
abbrev eOw {α ε : Type} (q : ORep α) (R : ERep ε) : ERep (Option α × ε) := eOwP ownN q R
abbrev eIo {α ε : Type} (k : Nat) (q : ORep α) (R : ERep ε) : ERep (Option α × ε) := eOwP (ownI k) q R
/-- a name that holds an object that stood before and is only read -/
def eBo {α ε : Type} (q : ORep α) (R : ERep ε) : ERep (Option α × ε) :=
  ⟨fun K F G H σ e => ∃ o σ', σ = o :: σ' ∧ (∀ x, e.1 = some x → ∃ L ho, o = some (.ref L) ∧ F.H0 L = some ho ∧ L ∉ F.ws ∧ q.rel K G ho x) ∧ R.rel K F G H σ' e.2, fun g h n ⟨o, σ', h1, h2, h3⟩ =>
    ⟨o, σ', h1, fun x hx => let ⟨L, ho, a, b, c, d⟩ := h2 x hx; ⟨L, ho, a, b, c, q.mono g d⟩, R.mono g h n h3⟩,
   fun ⟨o, σ', h1, h2, h3⟩ => ⟨o, σ', h1, h2, R.lock h3⟩, fun ⟨o, σ', h1, h2, h3⟩ => ⟨o, σ', h1, h2, R.unlock h3⟩⟩
/-- a name that holds a dict that is walked -/
def ePr {α ε : Type} (q : ORep α) (R : ERep ε) : ERep (Option α × ε) :=
  ⟨fun K F G H σ e => ∃ o σ', σ = o :: σ' ∧ (∀ x, e.1 = some x → ∃ L ho, o = some (.ref L) ∧ F.Y L = some ho ∧ q.rel K G ho x) ∧ R.rel K F G H σ' e.2, fun g h n ⟨o, σ', h1, h2, h3⟩ =>
    ⟨o, σ', h1, fun x hx => let ⟨L, ho, a, b, d⟩ := h2 x hx; ⟨L, ho, a, b, q.mono g d⟩, R.mono g h n h3⟩,
   fun ⟨o, σ', h1, h2, h3⟩ => ⟨o, σ', h1, h2, R.lock h3⟩, fun ⟨o, σ', h1, h2, h3⟩ => ⟨o, σ', h1, h2, R.unlock h3⟩⟩
/-- a slot of the mirror's names -/
structure Ln (ε α : Type) where
  get : ε → Option α
  put : Option α → ε → ε
def Ln.z {α ε : Type} : Ln (Option α × ε) α := ⟨fun e => e.1, fun a e => (a, e.2)⟩
def Ln.s {α β ε : Type} (l : Ln ε α) : Ln (β × ε) α := ⟨fun e => l.get e.2, fun a e => (e.1, l.put a e.2)⟩
section
variable {α β ε : Type} {l : Ln ε α} {e : ε} {x y : Option α} {z : β}
@[simp] theorem Ln.get_z {a : Option α} : (Ln.z : Ln (Option α × ε) α).get (a, e) = a := rfl
@[simp] theorem Ln.put_z {a : Option α} : (Ln.z : Ln (Option α × ε) α).put x (a, e) = (x, e) := rfl
@[simp] theorem Ln.get_s : (Ln.s l : Ln (β × ε) α).get (z, e) = l.get e := rfl
@[simp] theorem Ln.put_s : (Ln.s l : Ln (β × ε) α).put x (z, e) = (z, l.put x e) := rfl
end
structure FrAt {α ε : Type} (R : ERep ε) (n : Nat) (r : Rep α) (l : Ln ε α) : Prop where
  rd : ∀ {K F G H σ e a}, R.rel K F G H σ e → l.get e = some a → ∃ v, σ[n]? = some (some v) ∧ r.rel K G v a
  wr : ∀ {K F G H σ e a v}, R.rel K F G H σ e → r.rel K G v a → R.rel K F G H (σ.set n (some v)) (l.put (some a) e)
  kl : ∀ {K F G H σ e}, R.rel K F G H σ e → R.rel K F G H σ (l.put none e)
  wn : ∀ {K F G H σ e}, R.rel K F G H σ e → R.rel K F G H (σ.set n none) (l.put none e)
  rs : ∀ {K F G H G' H' σ e e'}, R.rel K F G H σ e → Sub G G' → R.rel K F G' H' (σ.set n none) e' → R.rel K F G' H' σ (l.put (l.get e) e')
structure OwAt {α ε : Type} (R : ERep ε) (n : Nat) (own : Frm → Addr → Prop) (q : ORep α) (l : Ln ε α) : Prop where
  rd : ∀ {K F G H σ e a}, R.rel K F G H σ e → l.get e = some a → ∃ L ho, σ[n]? = some (some (.ref L)) ∧ H L = some ho ∧ G L = none ∧ own F L ∧ q.rel K G ho a ∧ R.rel K F G (hide H L) σ (l.put none e)
  bk : ∀ {K F G H σ e L ho a}, R.rel K F G (hide H L) σ e → σ[n]? = some (some (.ref L)) → H L = some ho → G L = none → own F L → q.rel K G ho a → R.rel K F G H σ (l.put (some a) e)
  wr : ∀ {K F G H σ e L ho a}, R.rel K F G (hide H L) σ e → H L = some ho → G L = none → own F L → q.rel K G ho a → R.rel K F G H (σ.set n (some (.ref L))) (l.put (some a) e)
  kl : ∀ {K F G H σ e}, R.rel K F G H σ e → R.rel K F G H σ (l.put none e)
structure BoAt {α ε : Type} (R : ERep ε) (n : Nat) (q : ORep α) (l : Ln ε α) : Prop where
  rd : ∀ {K F G H σ e a}, R.rel K F G H σ e → l.get e = some a → ∃ L ho, σ[n]? = some (some (.ref L)) ∧ F.H0 L = some ho ∧ L ∉ F.ws ∧ q.rel K G ho a
section
variable {α β ε : Type} {R : ERep ε} {n : Nat} {r : Rep α} {q : ORep α} {own own' : Frm → Addr → Prop} [op : OwnP own] [op' : OwnP own'] {l : Ln ε α} {r' : Rep β} {q' : ORep β}
theorem FrAt.z : FrAt (eFr r R) 0 r Ln.z := by
  refine ⟨?_, ?_, ?_, ?_, ?_⟩
  · rintro K F G H σ e a ⟨o, σ', rfl, h2, h3⟩ h
    obtain ⟨v, rfl, hv⟩ := h2 a h
    exact ⟨v, rfl, hv⟩
  · rintro K F G H σ e a v ⟨o, σ', rfl, h2, h3⟩ h
    exact ⟨some v, σ', rfl, fun x hx => ⟨v, rfl, by cases hx; exact h⟩, h3⟩
  · rintro K F G H σ e ⟨o, σ', rfl, h2, h3⟩
    exact ⟨o, σ', rfl, fun x hx => (nomatch hx), h3⟩
  · rintro K F G H σ e ⟨o, σ', rfl, h2, h3⟩
    exact ⟨none, σ', rfl, fun x hx => (nomatch hx), h3⟩
  · rintro K F G H G' H' σ e e' ⟨o, σ', rfl, h2, h3⟩ s ⟨o', σ'', h4, h5, h6⟩
    obtain ⟨rfl, rfl⟩ := List.cons.inj h4
    exact ⟨o, σ', rfl, fun x hx => let ⟨v, a, b⟩ := h2 x hx; ⟨v, a, r.mono s b⟩, h6⟩
theorem FrAt.sF (h : FrAt R n r l) : FrAt (eFr r' R) (n + 1) r (Ln.s l) := by
  refine ⟨?_, ?_, ?_, ?_, ?_⟩
  · rintro K F G H σ e a ⟨o, σ', rfl, h2, h3⟩ hh
    exact h.rd h3 hh
  · rintro K F G H σ e a v ⟨o, σ', rfl, h2, h3⟩ hh
    exact ⟨o, _, rfl, h2, h.wr h3 hh⟩
  · rintro K F G H σ e ⟨o, σ', rfl, h2, h3⟩
    exact ⟨o, _, rfl, h2, h.kl h3⟩
  · rintro K F G H σ e ⟨o, σ', rfl, h2, h3⟩
    exact ⟨o, _, rfl, h2, h.wn h3⟩
  · rintro K F G H G' H' σ e e' ⟨o, σ', rfl, h2, h3⟩ s ⟨o', σ'', h4, h5, h6⟩
    obtain ⟨rfl, rfl⟩ := List.cons.inj h4
    exact ⟨_, _, rfl, h5, h.rs h3 s h6⟩
theorem FrAt.sB (h : FrAt R n r l) : FrAt (eBo q' R) (n + 1) r (Ln.s l) := by
  refine ⟨?_, ?_, ?_, ?_, ?_⟩
  · rintro K F G H σ e a ⟨o, σ', rfl, h2, h3⟩ hh
    exact h.rd h3 hh
  · rintro K F G H σ e a v ⟨o, σ', rfl, h2, h3⟩ hh
    exact ⟨o, _, rfl, h2, h.wr h3 hh⟩
  · rintro K F G H σ e ⟨o, σ', rfl, h2, h3⟩
    exact ⟨o, _, rfl, h2, h.kl h3⟩
  · rintro K F G H σ e ⟨o, σ', rfl, h2, h3⟩
    exact ⟨o, _, rfl, h2, h.wn h3⟩
  · rintro K F G H G' H' σ e e' ⟨o, σ', rfl, h2, h3⟩ s ⟨o', σ'', h4, h5, h6⟩
    obtain ⟨rfl, rfl⟩ := List.cons.inj h4
    exact ⟨_, _, rfl, h5, h.rs h3 s h6⟩
theorem FrAt.sO (h : FrAt R n r l) : FrAt (eOwP own q' R) (n + 1) r (Ln.s l) := by
  refine ⟨?_, ?_, ?_, ?_, ?_⟩
  · rintro K F G H σ e a ⟨o, σ', rfl, ⟨h1, h2⟩ | ⟨x, L, ho, a1, a2, a3, a4, a5, a6, a7⟩⟩ hh
    · exact h.rd h2 hh
    · exact h.rd a7 hh
  · rintro K F G H σ e a v ⟨o, σ', rfl, ⟨h1, h2⟩ | ⟨x, L, ho, a1, a2, a3, a4, a5, a6, a7⟩⟩ hh
    · exact ⟨o, _, rfl, .inl ⟨h1, h.wr h2 hh⟩⟩
    · exact ⟨o, _, rfl, .inr ⟨x, L, ho, a1, a2, a3, a4, a5, a6, h.wr a7 hh⟩⟩
  · rintro K F G H σ e ⟨o, σ', rfl, ⟨h1, h2⟩ | ⟨x, L, ho, a1, a2, a3, a4, a5, a6, a7⟩⟩
    · exact ⟨o, _, rfl, .inl ⟨h1, h.kl h2⟩⟩
    · exact ⟨o, _, rfl, .inr ⟨x, L, ho, a1, a2, a3, a4, a5, a6, h.kl a7⟩⟩
  · rintro K F G H σ e ⟨o, σ', rfl, ⟨h1, h2⟩ | ⟨x, L, ho, a1, a2, a3, a4, a5, a6, a7⟩⟩
    · exact ⟨o, _, rfl, .inl ⟨h1, h.wn h2⟩⟩
    · exact ⟨o, _, rfl, .inr ⟨x, L, ho, a1, a2, a3, a4, a5, a6, h.wn a7⟩⟩
  · rintro K F G H G' H' σ e e' ⟨o, σ', rfl, hx⟩ s ⟨o', σ'', h4, hy⟩
    obtain ⟨rfl, rfl⟩ := List.cons.inj h4
    have old : ∃ H1, R.rel K F G H1 σ' e.2 := by
      rcases hx with ⟨_, h2⟩ | ⟨_, _, _, _, _, _, _, _, _, a7⟩
      · exact ⟨_, h2⟩
      · exact ⟨_, a7⟩
    obtain ⟨H1, h3⟩ := old
    rcases hy with ⟨h1, h2⟩ | ⟨x, L, ho, a1, a2, a3, a4, a5, a6, a7⟩
    · exact ⟨_, _, rfl, .inl ⟨h1, h.rs h3 s h2⟩⟩
    · exact ⟨_, _, rfl, .inr ⟨x, L, ho, a1, a2, a3, a4, a5, a6, h.rs h3 s a7⟩⟩
theorem FrAt.sP (h : FrAt R n r l) : FrAt (ePr q' R) (n + 1) r (Ln.s l) := by
  refine ⟨?_, ?_, ?_, ?_, ?_⟩
  · rintro K F G H σ e a ⟨o, σ', rfl, h2, h3⟩ hh
    exact h.rd h3 hh
  · rintro K F G H σ e a v ⟨o, σ', rfl, h2, h3⟩ hh
    exact ⟨o, _, rfl, h2, h.wr h3 hh⟩
  · rintro K F G H σ e ⟨o, σ', rfl, h2, h3⟩
    exact ⟨o, _, rfl, h2, h.kl h3⟩
  · rintro K F G H σ e ⟨o, σ', rfl, h2, h3⟩
    exact ⟨o, _, rfl, h2, h.wn h3⟩
  · rintro K F G H G' H' σ e e' ⟨o, σ', rfl, h2, h3⟩ s ⟨o', σ'', h4, h5, h6⟩
    obtain ⟨rfl, rfl⟩ := List.cons.inj h4
    exact ⟨_, _, rfl, h5, h.rs h3 s h6⟩
theorem OwAt.z : OwAt (eOwP own q R) 0 own q Ln.z := by
  refine ⟨?_, ?_, ?_, ?_⟩
  · rintro K F G H σ e a ⟨o, σ', rfl, ⟨h1, h2⟩ | ⟨x, L, ho, a1, a2, a3, a4, a5, a6, a7⟩⟩ hh
    · rw [show (Ln.z : Ln _ α).get e = e.1 from rfl, h1] at hh; cases hh
    · rw [show (Ln.z : Ln _ α).get e = e.1 from rfl, a1] at hh
      cases hh
      exact ⟨L, ho, by rw [a2]; rfl, a3, a4, a5, a6, o, _, rfl, .inl ⟨rfl, a7⟩⟩
  · rintro K F G H σ e L ho a ⟨o, σ', rfl, ⟨h1, h2⟩ | ⟨x, L', ho', a1, a2, a3, a4, a5, a6, a7⟩⟩ hs hl gl ow hq
    · exact ⟨o, _, rfl, .inr ⟨a, L, ho, rfl, by simpa using hs, hl, gl, ow, hq, h2⟩⟩
    · exact ⟨o, _, rfl, .inr ⟨a, L, ho, rfl, by simpa using hs, hl, gl, ow, hq, R.mono .refl hide_sub (fun b _ h => h) a7⟩⟩
  · rintro K F G H σ e L ho a ⟨o, σ', rfl, ⟨h1, h2⟩ | ⟨x, L', ho', a1, a2, a3, a4, a5, a6, a7⟩⟩ hl gl ow hq
    · exact ⟨_, _, rfl, .inr ⟨a, L, ho, rfl, rfl, hl, gl, ow, hq, h2⟩⟩
    · exact ⟨_, _, rfl, .inr ⟨a, L, ho, rfl, rfl, hl, gl, ow, hq, R.mono .refl hide_sub (fun b _ h => h) a7⟩⟩
  · rintro K F G H σ e ⟨o, σ', rfl, ⟨h1, h2⟩ | ⟨x, L', ho', a1, a2, a3, a4, a5, a6, a7⟩⟩
    · exact ⟨o, _, rfl, .inl ⟨rfl, h2⟩⟩
    · exact ⟨o, _, rfl, .inl ⟨rfl, R.mono .refl hide_sub (fun b _ h => h) a7⟩⟩
theorem OwAt.sF (h : OwAt R n own q l) : OwAt (eFr r' R) (n + 1) own q (Ln.s l) := by
  refine ⟨?_, ?_, ?_, ?_⟩
  · rintro K F G H σ e a ⟨o, σ', rfl, h2, h3⟩ hh
    obtain ⟨L, ho, b1, b2, b3, b4, b5, b6⟩ := h.rd h3 hh
    exact ⟨L, ho, b1, b2, b3, b4, b5, o, _, rfl, h2, b6⟩
  · rintro K F G H σ e L ho a ⟨o, σ', rfl, h2, h3⟩ hs hl gl ow hq
    exact ⟨o, _, rfl, h2, h.bk h3 hs hl gl ow hq⟩
  · rintro K F G H σ e L ho a ⟨o, σ', rfl, h2, h3⟩ hl gl ow hq
    exact ⟨o, _, rfl, h2, h.wr h3 hl gl ow hq⟩
  · rintro K F G H σ e ⟨o, σ', rfl, h2, h3⟩
    exact ⟨o, _, rfl, h2, h.kl h3⟩
theorem OwAt.sB (h : OwAt R n own q l) : OwAt (eBo q' R) (n + 1) own q (Ln.s l) := by
  refine ⟨?_, ?_, ?_, ?_⟩
  · rintro K F G H σ e a ⟨o, σ', rfl, h2, h3⟩ hh
    obtain ⟨L, ho, b1, b2, b3, b4, b5, b6⟩ := h.rd h3 hh
    exact ⟨L, ho, b1, b2, b3, b4, b5, o, _, rfl, h2, b6⟩
  · rintro K F G H σ e L ho a ⟨o, σ', rfl, h2, h3⟩ hs hl gl ow hq
    exact ⟨o, _, rfl, h2, h.bk h3 hs hl gl ow hq⟩
  · rintro K F G H σ e L ho a ⟨o, σ', rfl, h2, h3⟩ hl gl ow hq
    exact ⟨o, _, rfl, h2, h.wr h3 hl gl ow hq⟩
  · rintro K F G H σ e ⟨o, σ', rfl, h2, h3⟩
    exact ⟨o, _, rfl, h2, h.kl h3⟩
theorem OwAt.sO (h : OwAt R n own q l) : OwAt (eOwP own' q' R) (n + 1) own q (Ln.s l) := by
  refine ⟨?_, ?_, ?_, ?_⟩
  · rintro K F G H σ e a ⟨o, σ', rfl, ⟨h1, h2⟩ | ⟨x, L', ho', a1, a2, a3, a4, a5, a6, a7⟩⟩ hh
    · obtain ⟨L, ho, b1, b2, b3, b4, b5, b6⟩ := h.rd h2 hh
      exact ⟨L, ho, b1, b2, b3, b4, b5, o, _, rfl, .inl ⟨h1, b6⟩⟩
    · obtain ⟨L, ho, b1, b2, b3, b4, b5, b6⟩ := h.rd a7 hh
      obtain ⟨n1, b2'⟩ := hide_some b2
      refine ⟨L, ho, b1, b2', b3, b4, b5, o, _, rfl, .inr ⟨x, L', ho', a1, a2, by rw [hide_ne n1.symm]; exact a3, a4, a5, a6, ?_⟩⟩
      rw [hide_comm]
      exact b6
  · rintro K F G H σ e L ho a ⟨o, σ', rfl, ⟨h1, h2⟩ | ⟨x, L', ho', a1, a2, a3, a4, a5, a6, a7⟩⟩ hs hl gl ow hq
    · exact ⟨o, _, rfl, .inl ⟨h1, h.bk h2 hs hl gl ow hq⟩⟩
    · obtain ⟨n1, a3'⟩ := hide_some a3
      refine ⟨o, _, rfl, .inr ⟨x, L', ho', a1, a2, a3', a4, a5, a6, h.bk ?_ hs (by rw [hide_ne n1.symm]; exact hl) gl ow hq⟩⟩
      rw [hide_comm]
      exact a7
  · rintro K F G H σ e L ho a ⟨o, σ', rfl, ⟨h1, h2⟩ | ⟨x, L', ho', a1, a2, a3, a4, a5, a6, a7⟩⟩ hl gl ow hq
    · exact ⟨o, _, rfl, .inl ⟨h1, h.wr h2 hl gl ow hq⟩⟩
    · obtain ⟨n1, a3'⟩ := hide_some a3
      refine ⟨o, _, rfl, .inr ⟨x, L', ho', a1, a2, a3', a4, a5, a6, h.wr ?_ (by rw [hide_ne n1.symm]; exact hl) gl ow hq⟩⟩
      rw [hide_comm]
      exact a7
  · rintro K F G H σ e ⟨o, σ', rfl, ⟨h1, h2⟩ | ⟨x, L', ho', a1, a2, a3, a4, a5, a6, a7⟩⟩
    · exact ⟨o, _, rfl, .inl ⟨h1, h.kl h2⟩⟩
    · exact ⟨o, _, rfl, .inr ⟨x, L', ho', a1, a2, a3, a4, a5, a6, h.kl a7⟩⟩
theorem BoAt.z : BoAt (eBo q R) 0 q Ln.z := ⟨by
  rintro K F G H σ e a ⟨o, σ', rfl, h2, h3⟩ h
  obtain ⟨L, ho, rfl, hv⟩ := h2 a h
  exact ⟨L, ho, rfl, hv⟩⟩
theorem BoAt.sF (h : BoAt R n q l) : BoAt (eFr r' R) (n + 1) q (Ln.s l) := ⟨by
  rintro K F G H σ e a ⟨o, σ', rfl, h2, h3⟩ hh
  exact h.rd h3 hh⟩
theorem BoAt.sB (h : BoAt R n q l) : BoAt (eBo q' R) (n + 1) q (Ln.s l) := ⟨by
  rintro K F G H σ e a ⟨o, σ', rfl, h2, h3⟩ hh
  exact h.rd h3 hh⟩
theorem BoAt.sO (h : BoAt R n q l) : BoAt (eOwP own' q' R) (n + 1) q (Ln.s l) := ⟨by
  rintro K F G H σ e a ⟨o, σ', rfl, ⟨h1, h2⟩ | ⟨x, L', ho', a1, a2, a3, a4, a5, a6, a7⟩⟩ hh
  · exact h.rd h2 hh
  · exact h.rd a7 hh⟩
structure PrAt {α ε : Type} (R : ERep ε) (n : Nat) (q : ORep α) (l : Ln ε α) : Prop where
  rd : ∀ {K F G H σ e a}, R.rel K F G H σ e → l.get e = some a → ∃ L ho, σ[n]? = some (some (.ref L)) ∧ F.Y L = some ho ∧ q.rel K G ho a
theorem PrAt.z : PrAt (ePr q R) 0 q Ln.z := ⟨by
  rintro K F G H σ e a ⟨o, σ', rfl, h2, h3⟩ h
  obtain ⟨L, ho, rfl, hv⟩ := h2 a h
  exact ⟨L, ho, rfl, hv⟩⟩
theorem PrAt.sF (h : PrAt R n q l) : PrAt (eFr r' R) (n + 1) q (Ln.s l) := ⟨by
  rintro K F G H σ e a ⟨o, σ', rfl, h2, h3⟩ hh
  exact h.rd h3 hh⟩
theorem PrAt.sB (h : PrAt R n q l) : PrAt (eBo q' R) (n + 1) q (Ln.s l) := ⟨by
  rintro K F G H σ e a ⟨o, σ', rfl, h2, h3⟩ hh
  exact h.rd h3 hh⟩
theorem PrAt.sO (h : PrAt R n q l) : PrAt (eOwP own' q' R) (n + 1) q (Ln.s l) := ⟨by
  rintro K F G H σ e a ⟨o, σ', rfl, ⟨h1, h2⟩ | ⟨x, L', ho', a1, a2, a3, a4, a5, a6, a7⟩⟩ hh
  · exact h.rd h2 hh
  · exact h.rd a7 hh⟩
/-- a dict is locked while it is walked: the names under the lock -/
structure LkR (R : ERep ε) : Prop where
  lk : ∀ {K F G H σ e D o}, R.rel K F G (hide H D) σ e → R.rel K (F.lockY D o) G H σ e
  ul : ∀ {K F G H σ e D o}, R.rel K (F.lockY D o) G H σ e → R.rel K F G (hide H D) σ e
theorem LkR.nil : LkR eNil := ⟨fun h => h, fun h => h⟩
theorem LkR.fr (h : LkR R) : LkR (eFr r R) := ⟨fun ⟨o, σ', h1, h2, h3⟩ => ⟨o, σ', h1, h2, h.lk h3⟩, fun ⟨o, σ', h1, h2, h3⟩ => ⟨o, σ', h1, h2, h.ul h3⟩⟩
theorem LkR.ow (h : LkR R) : LkR (eOwP own q R) := by
  refine ⟨?_, ?_⟩
  · rintro K F G H σ e D o' ⟨o, σ', h1, h2⟩
    refine ⟨o, σ', h1, ?_⟩
    rcases h2 with ⟨a, b⟩ | ⟨x, L, ho, a1, a2, a3, a4, a5, a6, a7⟩
    · exact .inl ⟨a, h.lk b⟩
    · obtain ⟨n, a3'⟩ := hide_some a3
      exact .inr ⟨x, L, ho, a1, a2, a3', a4, op.lockY a5 n, a6, h.lk (by rw [hide_comm]; exact a7)⟩
  · rintro K F G H σ e D o' ⟨o, σ', h1, h2⟩
    refine ⟨o, σ', h1, ?_⟩
    rcases h2 with ⟨a, b⟩ | ⟨x, L, ho, a1, a2, a3, a4, a5, a6, a7⟩
    · exact .inl ⟨a, h.ul b⟩
    · obtain ⟨n, a5'⟩ := op.unlockY a5
      exact .inr ⟨x, L, ho, a1, a2, by rw [hide_ne n]; exact a3, a4, a5', a6, by rw [hide_comm]; exact h.ul a7⟩
structure Sw (R R' : ERep ε) (n : Nat) (q' : ORep α) (l : Ln ε α) : Prop where
  to : ∀ {K F G H σ e L ho a}, R.rel K F G (hide H L) σ (l.put none e) → σ[n]? = some (some (.ref L)) → q'.rel K G ho a → R'.rel K (F.lockY L ho) G H σ (l.put (some a) e)
  bk : ∀ {K F G H σ e L ho}, R'.rel K (F.lockY L ho) G H σ e → R.rel K F G (hide H L) σ (l.put none e)
theorem Sw.z {q1 : ORep α} (h : LkR R) : Sw (eOwP own q R) (ePr q1 R) 0 q1 Ln.z := by
  refine ⟨?_, ?_⟩
  · rintro K F G H σ e L ho a ⟨o, σ', rfl, ⟨h1, h2⟩ | ⟨x, L', ho', a1, a2, a3, a4, a5, a6, a7⟩⟩ hs hq
    · exact ⟨o, σ', rfl, fun x hx => ⟨L, ho, by simpa using hs, upd_same, by cases hx; exact hq⟩, h.lk h2⟩
    · cases a1
  · rintro K F G H σ e L ho ⟨o, σ', rfl, h1, h2⟩
    exact ⟨o, σ', rfl, .inl ⟨rfl, h.ul h2⟩⟩
theorem Sw.sF {R1 R1' : ERep ε} {q1 : ORep α} (h : Sw R1 R1' n q1 l) : Sw (eFr r' R1) (eFr r' R1') (n + 1) q1 (Ln.s l) := by
  refine ⟨?_, ?_⟩
  · rintro K F G H σ e L ho a ⟨o, σ', rfl, h1, h2⟩ hs hq
    exact ⟨o, σ', rfl, h1, h.to h2 hs hq⟩
  · rintro K F G H σ e L ho ⟨o, σ', rfl, h1, h2⟩
    exact ⟨o, σ', rfl, h1, h.bk h2⟩
theorem Sw.sB {R1 R1' : ERep ε} {q1 : ORep α} (h : Sw R1 R1' n q1 l) : Sw (eBo q' R1) (eBo q' R1') (n + 1) q1 (Ln.s l) := by
  refine ⟨?_, ?_⟩
  · rintro K F G H σ e L ho a ⟨o, σ', rfl, h1, h2⟩ hs hq
    exact ⟨o, σ', rfl, h1, h.to h2 hs hq⟩
  · rintro K F G H σ e L ho ⟨o, σ', rfl, h1, h2⟩
    exact ⟨o, σ', rfl, h1, h.bk h2⟩
theorem Sw.sO {R1 R1' : ERep ε} {q1 : ORep α} (h : Sw R1 R1' n q1 l) : Sw (eOwP own' q' R1) (eOwP own' q' R1') (n + 1) q1 (Ln.s l) := by
  refine ⟨?_, ?_⟩
  · rintro K F G H σ e L ho a ⟨o, σ', rfl, ⟨h1, h2⟩ | ⟨x, L', ho', a1, a2, a3, a4, a5, a6, a7⟩⟩ hs hq
    · exact ⟨o, σ', rfl, .inl ⟨h1, h.to h2 hs hq⟩⟩
    · obtain ⟨n1, a3'⟩ := hide_some a3
      exact ⟨o, σ', rfl, .inr ⟨x, L', ho', a1, a2, a3', a4, op'.lockY a5 n1, a6, h.to (by rw [hide_comm]; exact a7) hs hq⟩⟩
  · rintro K F G H σ e L ho ⟨o, σ', rfl, ⟨h1, h2⟩ | ⟨x, L', ho', a1, a2, a3, a4, a5, a6, a7⟩⟩
    · exact ⟨o, σ', rfl, .inl ⟨h1, h.bk h2⟩⟩
    · obtain ⟨n1, a5'⟩ := op'.unlockY a5
      exact ⟨o, σ', rfl, .inr ⟨x, L', ho', a1, a2, by rw [hide_ne n1]; exact a3, a4, a5', a6, by rw [hide_comm]; exact h.bk a7⟩⟩
end
section
variable {α β γ ε ρ ν : Type} {M : Mx} {R : ERep ε} {F : Frm} {G G1 H : Hp} {σ : Sg} {n : Nat} {l : Ln ε α} {own : Frm → Addr → Prop}
def mVar (l : Ln ε α) : ε → Rs ε α := fun e => .of (l.get e) e
theorem x_var {r : Rep α} (at' : FrAt R n r l) : EX M R (tVar n) (fz r) (mVar l) := fun F G H σ e i hR Q p => by
  obtain ⟨b, hb, p2⟩ := of_some p
  obtain ⟨v, h1, h2⟩ := at'.rd hR hb
  exact ⟨v, h1, p2 v G H H i .refl ⟨h2, rfl⟩ hR⟩
/-- an own object, handed over: the name is done with -/
def mMove (l : Ln ε α) : ε → Rs ε α := fun e => .of (l.get e) (l.put none e)
theorem x_move {q : ORep α} (at' : OwAt R n ownN q l) : EX M R (tVar n) (fs q) (mMove l) := fun F G H σ e i hR Q p => by
  obtain ⟨b, hb, p2⟩ := of_some p
  obtain ⟨L, ho, h1, h2, h3, h4, h5, h6⟩ := at'.rd hR hb
  exact ⟨.ref L, h1, p2 (.ref L) G H (hide H L) i .refl ⟨L, ho, rfl, h2, h3, h4, h5, rfl⟩ h6⟩
/-- the name's object, as it stands; whenever it is asked, it is at the same place -/
structure Late (R : ERep ε) (n : Nat) (q : ORep α) (l : Ln ε α) : Prop where
  rd : ∀ {K F G H σ e a}, IV F G H → R.rel K F G H σ e → l.get e = some a → ∃ L ho, σ[n]? = some (some (.ref L)) ∧ H L = some ho ∧ q.rel K G ho a
theorem Late.ow {q : ORep α} (at' : OwAt R n own q l) : Late R n q l := ⟨fun i h e => let ⟨L, ho, a, b, _, _, c, _⟩ := at'.rd h e; ⟨L, ho, a, b, c⟩⟩
theorem Late.bo {q : ORep α} (at' : BoAt R n q l) : Late R n q l := ⟨fun i h e => let ⟨L, ho, a, b, c, d⟩ := at'.rd h e; ⟨L, ho, a, i.fr _ _ c b, d⟩⟩
theorem x_varL {q : ORep α} (at' : Late R n q l) : EX M R (tVar n) (is (rd q)) (mVar l) := fun F G H σ e i hR Q p => by
  obtain ⟨b, hb, p2⟩ := of_some p
  obtain ⟨L, ho, h1, h2, h5⟩ := at'.rd i hR hb
  exact ⟨.ref L, h1, p2 (.ref L) G H H i .refl ⟨⟨L, ho, rfl, h2, h5⟩, rfl⟩ hR⟩
theorem Late.fr {q : ORep α} (at' : FrAt R n (rz q) l) : Late R n q l := ⟨fun i h e => let ⟨v, a, L, ho, b, c, d⟩ := at'.rd h e; ⟨L, ho, by rw [a, b], i.gh _ _ c, d⟩⟩
def mOpL (g : α → β → Option γ) (l : Ln ε α) (m : ε → Rs ε β) : ε → Rs ε γ := fun e => match l.get e with
  | none => .bad
  | some _ => (m e).bind fun b e1 => (mVar l e1).bind fun a e2 => .of (g a b) e2
/-- the first operand is a name's object -/
theorem x_opL {u : Sg → Hp → (ν → Hp → Prop) → Prop} {ν' : Type} {T : V → ν → Hp → (ν' → Hp → Prop) → Prop} {q : ORep α} {s : IR ν β} {r' : GR ν' γ} {g : α → β → Option γ} {m : ε → Rs ε β}
    (vr : VR2 M.K T (rd q) s r' g) (at' : Late R n q l) (h : EX M R u (is s) m) : EX M R (fun σ H Q => tVar n σ H fun x H1 => u σ H1 fun y H2 => T x y H2 Q) (fz r') (mOpL g l m) := fun F G H σ e i hR Q p => by
  unfold mOpL at p
  cases h0 : l.get e with
  | none => rw [h0] at p; exact p.elim
  | some a0 =>
    rw [h0] at p
    obtain ⟨L0, ho0, h1, _⟩ := at'.rd i hR h0
    refine ⟨_, h1, h F G H σ e i hR _ (p.bind (fun _ _ _ _ _ _ _ z => z.2) fun w b e1 G1 H1 i1 s1 R1 r1 p1 => ?_)⟩
    unfold mVar at p1
    cases h2 : l.get e1 with
    | none => rw [h2] at p1; exact p1.elim
    | some a1 =>
      rw [h2] at p1
      obtain ⟨L, ho, h3, h4, h5⟩ := at'.rd i1 R1 h2
      rw [h1] at h3
      cases h3
      obtain ⟨c, hc, p3⟩ := of_some p1
      exact vr G1 H1 _ w a1 b c Q i1.gh ⟨_, ho, rfl, h4, h5⟩ r1.1 hc (p3.fin i1 R1)
end
section
variable {ν ν' α β γ ε ρ : Type} {M : Mx} {R : ERep ε} {F : Frm} {G G1 H : Hp} {σ : Sg}
/-- a list that is not too long -/
def szOk (as : List α) : Option (List α) := if as.length ≤ 1000000 then some as else none
theorem szOk_some {as bs : List α} (h : szOk as = some bs) : as.length ≤ 1000000 ∧ bs = as := by
  unfold szOk at h
  split at h
  · next hz => cases h; exact ⟨hz, rfl⟩
  · cases h
theorem x_test {t : TE} {m : ε → Rs ε Bool} (h : EX M R t (fz rB) m) : EX M R (tTest t) (fz bR) m := fun F G H σ e i hR Q p => by
  refine h F G H σ e i hR _ ?_
  revert p
  cases m e with
  | ok a e' => exact fun p v G' H' H1 i1 s1 z R1 => ⟨a, z.1, p a G' H' H1 i1 s1 ⟨rfl, z.2⟩ R1⟩
  | ex c e' => exact id
  | bad => exact id
theorem x_tB {t : TE} {m : ε → Rs ε Bool} (h : EX M R t (fz rB) m) : EX M R (tB t) (fz bR) m := x_test h
def mNot (m : ε → Rs ε Bool) : ε → Rs ε Bool := fun e => (m e).bind fun b e1 => .ok (!b) e1
def mAnd (m n : ε → Rs ε Bool) : ε → Rs ε Bool := fun e => (m e).bind fun b e1 => if b = true then n e1 else .ok false e1
def mOr (m n : ε → Rs ε Bool) : ε → Rs ε Bool := fun e => (m e).bind fun b e1 => if b = true then .ok true e1 else n e1
def mIf (m : ε → Rs ε Bool) (n k : ε → Rs ε α) : ε → Rs ε α := fun e => (m e).bind fun b e1 => if b = true then n e1 else k e1
theorem fz_h {r : GR ν α} : ∀ K F G H v a H1, (fz r).rel K F G H v a H1 → H1 = H := fun _ _ _ _ _ _ _ z => z.2
theorem is_h {r : IR ν α} : ∀ K F G H v a H1, (is r).rel K F G H v a H1 → H1 = H := fun _ _ _ _ _ _ _ z => z.2
theorem x_not {t : TT} {m : ε → Rs ε Bool} (h : EX M R t (fz bR) m) : EX M R (tNot t) (fz bR) (mNot m) := fun F G H σ e i hR Q p =>
  h F G H σ e i hR _ (p.bind fz_h fun v a e1 G1 H1 i1 s1 R1 r1 p1 => by
    have e : v = a := r1.1
    subst e
    exact p1 (!v) G1 H1 H1 i1 .refl ⟨rfl, rfl⟩ R1)
theorem x_and {t u : TT} {m n : ε → Rs ε Bool} (h : EX M R t (fz bR) m) (k : EX M R u (fz bR) n) : EX M R (tAnd t u) (fz bR) (mAnd m n) := fun F G H σ e i hR Q p =>
  h F G H σ e i hR _ (p.bind fz_h fun v a e1 G1 H1 i1 s1 R1 r1 p1 => by
    have e : v = a := r1.1
    subst e
    cases v with
    | false => exact p1 false G1 H1 H1 i1 .refl ⟨rfl, rfl⟩ R1
    | true => exact k F G1 H1 σ e1 i1 R1 Q p1)
theorem x_or {t u : TT} {m n : ε → Rs ε Bool} (h : EX M R t (fz bR) m) (k : EX M R u (fz bR) n) : EX M R (tOr t u) (fz bR) (mOr m n) := fun F G H σ e i hR Q p =>
  h F G H σ e i hR _ (p.bind fz_h fun v a e1 G1 H1 i1 s1 R1 r1 p1 => by
    have e : v = a := r1.1
    subst e
    cases v with
    | true => exact p1 true G1 H1 H1 i1 .refl ⟨rfl, rfl⟩ R1
    | false => exact k F G1 H1 σ e1 i1 R1 Q p1)
theorem x_notV {t : TE} {m : ε → Rs ε Bool} (h : EX M R t (fz rB) m) : EX M R (tNotV t) (fz rB) (mNot m) := fun F G H σ e i hR Q p =>
  h F G H σ e i hR _ (p.bind fz_h fun v a e1 G1 H1 i1 s1 R1 r1 p1 => ⟨a, r1.1, p1 _ G1 H1 H1 i1 .refl ⟨rfl, rfl⟩ R1⟩)
theorem x_andV {t u : TE} {m n : ε → Rs ε Bool} (h : EX M R t (fz rB) m) (k : EX M R u (fz rB) n) : EX M R (tAndV t u) (fz rB) (mAnd m n) := fun F G H σ e i hR Q p =>
  h F G H σ e i hR _ (p.bind fz_h fun v a e1 G1 H1 i1 s1 R1 r1 p1 => ⟨a, r1.1, by
    cases a with
    | false => exact p1 (.bl false) G1 H1 H1 i1 .refl ⟨rfl, rfl⟩ R1
    | true => exact k F G1 H1 σ e1 i1 R1 Q p1⟩)
/-- a < b < c -/
def mChain (g : α → β → Option Bool) (g' : β → γ → Option Bool) (m : ε → Rs ε α) (n : ε → Rs ε β) (k : ε → Rs ε γ) : ε → Rs ε Bool := fun e => (m e).bind fun a e1 => (n e1).bind fun b e2 => (Rs.of (g a b) e2).bind fun c e3 => if c = true then (k e3).bind fun d e4 => .of (g' b d) e4 else .ok false e3
theorem x_chain {r r' : R2} {ta tb tc : TE} {ra : Rep α} {rb : Rep β} {rc : Rep γ} {g : α → β → Option Bool} {g' : β → γ → Option Bool} {m : ε → Rs ε α} {n : ε → Rs ε β} {k : ε → Rs ε γ}
    (vr : VR2 M.K r (ir ra) (ir rb) rB g) (vr' : VR2 M.K r' (ir rb) (ir rc) rB g') (h : EX M R ta (fz ra) m) (h' : EX M R tb (fz rb) n) (h'' : EX M R tc (fz rc) k) : EX M R (tChain r r' ta tb tc) (fz rB) (mChain g g' m n k) := fun F G H σ e i hR Q p =>
  h F G H σ e i hR _ (p.bind fz_h fun v a e1 G1 H1 i1 s1 R1 r1 p1 => h' F G1 H1 σ e1 i1 R1 _ (p1.bind fz_h fun w b e2 G2 H2 i2 s2 R2 r2 p2 => by
    cases hc : g a b with
    | none => rw [hc] at p2; exact p2.elim
    | some c =>
      rw [hc] at p2
      refine vr G2 H2 v w a b c _ i2.gh (ra.mono s2 r1.1) r2.1 hc fun z G3 H3 st hz => ⟨c, hz, ?_⟩
      have i3 := i2.step st
      have R3 := R.mono st.g st.h st.n R2
      cases c with
      | false => exact p2 (.bl false) G3 H3 H3 i3 st.g ⟨rfl, rfl⟩ R3
      | true =>
        rw [if_pos rfl]
        have p2 : Post M R F G2 σ (fz rB) Q ((k e2).bind fun d e4 => .of (g' b d) e4) := p2
        exact h'' F G3 H3 σ e2 i3 R3 _ ((Post.up p2 st.g).bind fz_h fun x d e4 G4 H4 i4 s4 R4 r4 p4 => by
          obtain ⟨y, hy, p5⟩ := of_some p4
          exact vr' G4 H4 w x b d y Q i4.gh (rb.mono (st.g.trans s4) r2.1) r4.1 hy (p5.fin i4 R4))))
def aNil : IR (List V) Unit := fun _ _ _ vs _ => vs = []
def aOne (i : IR V α) : IR (List V) α := fun K G H vs a => ∃ v, vs = [v] ∧ i K G H v a
def aCons (i : IR V α) (j : IR (List V) β) : IR (List V) (α × β) := fun K G H vs p => ∃ v ws, vs = v :: ws ∧ i K G H v p.1 ∧ j K G H ws p.2
def mPair (m : ε → Rs ε α) (n : ε → Rs ε β) : ε → Rs ε (α × β) := fun e => (m e).bind fun a e1 => (n e1).bind fun b e2 => .ok (a, b) e2
def mPairL (l : Ln ε α) (n : ε → Rs ε β) : ε → Rs ε (α × β) := fun e => match l.get e with
  | none => .bad
  | some _ => (n e).bind fun b e1 => (mVar l e1).bind fun a e2 => .ok (a, b) e2
theorem x_aone {t : TE} {j : IR V α} {m : ε → Rs ε α} (h : EX M R t (is j) m) : EX M R (tCons t tNil) (is (aOne j)) m := fun F G H σ e i hR Q p => by
  refine h F G H σ e i hR _ ?_
  revert p
  cases m e with
  | ok a e' => exact fun p v G' H' H1 i1 s1 z R1 => p [v] G' H' H1 i1 s1 ⟨⟨v, rfl, z.1⟩, z.2⟩ R1
  | ex c e' => exact id
  | bad => exact id
theorem x_acons {t : TE} {tr : TA} {r : Rep α} {j : IR V α} {k : IR (List V) β} {m : ε → Rs ε α} {n : ε → Rs ε β} (cv : Cv r j) (h : EX M R t (fz r) m) (h' : EX M R tr (is k) n) : EX M R (tCons t tr) (is (aCons j k)) (mPair m n) := fun F G H σ e i hR Q p =>
  h F G H σ e i hR _ (p.bind fz_h fun v a e1 G1 H1 i1 s1 R1 r1 p1 => h' F G1 H1 σ e1 i1 R1 _ (p1.bind is_h fun ws b e2 G2 H2 i2 s2 R2 r2 p2 =>
    p2 (v :: ws) G2 H2 H2 i2 .refl ⟨⟨v, ws, rfl, cv _ _ _ _ _ i2.gh (r.mono s2 r1.1), r2.1⟩, rfl⟩ R2))
theorem x_aconsL {n : Nat} {l : Ln ε α} {tr : TA} {q : ORep α} {k : IR (List V) β} {m : ε → Rs ε β} (at' : Late R n q l) (h' : EX M R tr (is k) m) : EX M R (tCons (tVar n) tr) (is (aCons (rd q) k)) (mPairL l m) := fun F G H σ e i hR Q p => by
  unfold mPairL at p
  cases h0 : l.get e with
  | none => rw [h0] at p; exact p.elim
  | some a0 =>
    rw [h0] at p
    obtain ⟨L0, ho0, h1, _⟩ := at'.rd i hR h0
    refine ⟨_, h1, h' F G H σ e i hR _ (p.bind is_h fun ws b e1 G1 H1 i1 s1 R1 r1 p1 => ?_)⟩
    unfold mVar at p1
    cases h2 : l.get e1 with
    | none => rw [h2] at p1; exact p1.elim
    | some a1 =>
      rw [h2] at p1
      obtain ⟨L, ho, h3, h4, h5⟩ := at'.rd i1 R1 h2
      rw [h1] at h3
      cases h3
      exact p1 (.ref _ :: ws) G1 H1 H1 i1 .refl ⟨⟨_, ws, rfl, ⟨_, ho, rfl, h4, h5⟩, r1.1⟩, rfl⟩ R1
def aLs (r : Rep α) : GR (List V) (List α) := ⟨fun K G vs as => A2 (r.rel K G) vs as, fun s h => h.mono fun _ _ => r.mono s⟩
def mCons (m : ε → Rs ε α) (n : ε → Rs ε (List α)) : ε → Rs ε (List α) := fun e => (m e).bind fun a e1 => (n e1).bind fun b e2 => .ok (a :: b) e2
theorem x_lnil {r : Rep α} : EX M R tNil (fz (aLs r)) (mC []) := fun F G H σ e i hR Q p => p [] G H H i .refl ⟨.nil, rfl⟩ hR
theorem x_lcons {t : TE} {tr : TA} {r : Rep α} {m : ε → Rs ε α} {n : ε → Rs ε (List α)} (h : EX M R t (fz r) m) (h' : EX M R tr (fz (aLs r)) n) : EX M R (tCons t tr) (fz (aLs r)) (mCons m n) := fun F G H σ e i hR Q p =>
  h F G H σ e i hR _ (p.bind fz_h fun v a e1 G1 H1 i1 s1 R1 r1 p1 => h' F G1 H1 σ e1 i1 R1 _ (p1.bind fz_h fun ws b e2 G2 H2 i2 s2 R2 r2 p2 =>
    p2 (v :: ws) G2 H2 H2 i2 .refl ⟨.cons (r.mono s2 r1.1) r2.1, rfl⟩ R2))
def aP2 (r : Rep α) (s : Rep β) : GR (List V) (α × β) := ⟨fun K G vs p => ∃ v w, vs = [v, w] ∧ r.rel K G v p.1 ∧ s.rel K G w p.2, fun u ⟨v, w, h1, h2, h3⟩ => ⟨v, w, h1, r.mono u h2, s.mono u h3⟩⟩
def aP3 (r : Rep α) (s : Rep β) (t : Rep γ) : GR (List V) (α × β × γ) := ⟨fun K G vs p => ∃ v w x, vs = [v, w, x] ∧ r.rel K G v p.1 ∧ s.rel K G w p.2.1 ∧ t.rel K G x p.2.2, fun u ⟨v, w, x, h1, h2, h3, h4⟩ => ⟨v, w, x, h1, r.mono u h2, s.mono u h3, t.mono u h4⟩⟩
theorem x_p2 {t u : TE} {r : Rep α} {s : Rep β} {m : ε → Rs ε α} {n : ε → Rs ε β} (h : EX M R t (fz r) m) (k : EX M R u (fz s) n) : EX M R (tCons t (tCons u tNil)) (fz (aP2 r s)) (mPair m n) := fun F G H σ e i hR Q p =>
  h F G H σ e i hR _ (p.bind fz_h fun v a e1 G1 H1 i1 s1 R1 r1 p1 => k F G1 H1 σ e1 i1 R1 _ (p1.bind fz_h fun w b e2 G2 H2 i2 s2 R2 r2 p2 =>
    p2 [v, w] G2 H2 H2 i2 .refl ⟨⟨v, w, rfl, r.mono s2 r1.1, r2.1⟩, rfl⟩ R2))
theorem x_p3 {t u x : TE} {r : Rep α} {s : Rep β} {r3 : Rep γ} {m : ε → Rs ε α} {n : ε → Rs ε β} {o : ε → Rs ε γ} (h : EX M R t (fz r) m) (k : EX M R u (fz s) n) (j : EX M R x (fz r3) o) : EX M R (tCons t (tCons u (tCons x tNil))) (fz (aP3 r s r3)) (mPair m (mPair n o)) := fun F G H σ e i hR Q p =>
  h F G H σ e i hR _ (p.bind fz_h fun v a e1 G1 H1 i1 s1 R1 r1 p1 => k F G1 H1 σ e1 i1 R1 _ (by
    unfold mPair at p1
    cases hn : n e1 with
    | bad => rw [hn] at p1; exact p1.elim
    | ex c e' => rw [hn] at p1; exact p1
    | ok b e2 =>
      rw [hn] at p1
      rintro w G2 H2 H2' i2 s2 ⟨r2, rfl⟩ R2
      refine j F G2 _ σ e2 i2 R2 _ ?_
      replace p1 := Post.up p1 s2
      revert p1
      simp only [Rs.bind_ok]
      cases o e2 with
      | bad => exact id
      | ex c e' => exact id
      | ok c e3 =>
        rintro p1 y G3 H3 H3' i3 s3 ⟨r3', rfl⟩ R3
        exact p1 [v, w, y] G3 _ _ i3 s3 ⟨⟨v, w, y, rfl, r.mono (s2.trans s3) r1.1, s.mono s3 r2, r3'⟩, rfl⟩ R3))
def nwL : List V → Hp → VK → Prop := fun xs H1 Q => xs.length ≤ sizeLine ∧ ∀ p, H1 p = none → Q (.ref p) (upd H1 p (.lst xs))
def nwT : List V → Hp → VK → Prop := fun xs H1 Q => xs.length ≤ sizeLine ∧ ∀ p, H1 p = none → Q (.ref p) (upd H1 p (.tup xs))
theorem v_lst {K : PySem.W.Frag} {r : Rep α} : VF K nwL (ir (aLs r)) (oL r) szOk := fun G H v a b Q s hr hg k => by
  obtain ⟨hz, rfl⟩ := szOk_some hg
  have hl := A2.length (show A2 (r.rel K G) v b from hr)
  exact ⟨by rw [hl, sizeLine_eq]; omega, fun p hp => k p _ G _ (.own s hp) hp (s.no hp) upd_same ⟨v, rfl, hr⟩⟩
theorem v_tup {K : PySem.W.Frag} {r : Rep α} : VR K nwT (ir (aLs r)) (rT r) szOk := fun G H v a b Q s hr hg k => by
  obtain ⟨hz, rfl⟩ := szOk_some hg
  have hl := A2.length (show A2 (r.rel K G) v b from hr)
  exact ⟨by rw [hl, sizeLine_eq]; omega, fun p hp => k (.ref p) _ _ (.new s hp) ⟨p, _, rfl, upd_same, v, rfl, (show A2 (r.rel K G) v b from hr).mono fun _ _ => r.mono (sub_upd (s.no hp))⟩⟩
theorem v_tup2 {K : PySem.W.Frag} {r : Rep α} {r' : Rep β} : VR K nwT (ir (aP2 r r')) (rT2 r r') some := fun G H v a b Q s hr hg k => by
  cases hg
  obtain ⟨x, y, rfl, h1, h2⟩ := hr
  exact ⟨by rw [sizeLine_eq]; simp only [List.length_cons, List.length_nil]; omega, fun p hp => k (.ref p) _ _ (.new s hp) ⟨p, _, rfl, upd_same, x, y, rfl, r.mono (sub_upd (s.no hp)) h1, r'.mono (sub_upd (s.no hp)) h2⟩⟩
theorem v_lst2 {K : PySem.W.Frag} {r : Rep α} {r' : Rep β} : VF K nwL (ir (aP2 r r')) (oL2 r r') some := fun G H v a b Q s hr hg k => by
  cases hg
  obtain ⟨x, y, rfl, h1, h2⟩ := hr
  exact ⟨by rw [sizeLine_eq]; simp only [List.length_cons, List.length_nil]; omega, fun p hp => k p _ G _ (.own s hp) hp (s.no hp) upd_same ⟨x, y, rfl, h1, h2⟩⟩
theorem v_lst3 {K : PySem.W.Frag} {r : Rep α} {r' : Rep β} {r'' : Rep γ} : VF K nwL (ir (aP3 r r' r'')) (oL3 r r' r'') some := fun G H v a b Q s hr hg k => by
  cases hg
  obtain ⟨x, y, z, rfl, h1, h2, h3⟩ := hr
  exact ⟨by rw [sizeLine_eq]; simp only [List.length_cons, List.length_nil]; omega, fun p hp => k p _ G _ (.own s hp) hp (s.no hp) upd_same ⟨x, y, z, rfl, h1, h2, h3⟩⟩
theorem x_lst {t : TA} {r : Rep α} {m : ε → Rs ε (List α)} (h : EX M R t (fz (aLs r)) m) : EX M R (tLst t) (fs (oL r)) (mUn szOk m) := x_unF (t := t) (T := nwL) v_lst h
theorem x_tup {t : TA} {r : Rep α} {m : ε → Rs ε (List α)} (h : EX M R t (fz (aLs r)) m) : EX M R (tTup t) (fz (rT r)) (mUn szOk m) := x_un (t := t) (T := nwT) v_tup h
theorem x_tup2 {t : TA} {r : Rep α} {r' : Rep β} {m : ε → Rs ε (α × β)} (h : EX M R t (fz (aP2 r r')) m) : EX M R (tTup t) (fz (rT2 r r')) (mUn some m) := x_un (t := t) (T := nwT) v_tup2 h
theorem x_lst2 {t : TA} {r : Rep α} {r' : Rep β} {m : ε → Rs ε (α × β)} (h : EX M R t (fz (aP2 r r')) m) : EX M R (tLst t) (fs (oL2 r r')) (mUn some m) := x_unF (t := t) (T := nwL) v_lst2 h
theorem x_lst3 {t : TA} {r : Rep α} {r' : Rep β} {r'' : Rep γ} {m : ε → Rs ε (α × β × γ)} (h : EX M R t (fz (aP3 r r' r'')) m) : EX M R (tLst t) (fs (oL3 r r' r'')) (mUn some m) := x_unF (t := t) (T := nwL) v_lst3 h
def PostS (M : Mx) (R : ERep ε) (rr : RS V ρ) (F : Frm) (G : Hp) (D : Ends) : So ε ρ → Prop
  | .nx e' => ∀ σ' G' H', IV F G' H' → Sub G G' → R.rel M.K F G' H' σ' e' → D.nx σ' H'
  | .bk e' => ∀ σ' G' H', IV F G' H' → Sub G G' → R.rel M.K F G' H' σ' e' → D.bk σ' H'
  | .ct e' => ∀ σ' G' H', IV F G' H' → Sub G G' → R.rel M.K F G' H' σ' e' → D.ct σ' H'
  | .rt a e' => ∀ v σ' G' H' H1, IV F G' H' → Sub G G' → rr.rel M.K F G' H' v a H1 → R.rel M.K F G' H1 σ' e' → D.rt v H'
  | .ex c e' => ∀ cls d σ' G' H', IV F G' H' → Sub G G' → R.rel M.K F G' H' σ' e' → xr M G' c cls d → M.E cls d H'
  | .bad => False
def SX (M : Mx) (R : ERep ε) (rr : RS V ρ) (t : TS) (m : ε → So ε ρ) : Prop := ∀ F G H σ e, IV F G H → R.rel M.K F G H σ e → ∀ D, PostS M R rr F G D (m e) → t D σ H
variable {rr : RS V ρ} {D D' : Ends}
theorem PostS.up {x : So ε ρ} (h : PostS M R rr F G D x) (s : Sub G G1) : PostS M R rr F G1 D x := by
  cases x with
  | nx e => exact fun σ' G' H' i z => h σ' G' H' i (s.trans z)
  | bk e => exact fun σ' G' H' i z => h σ' G' H' i (s.trans z)
  | ct e => exact fun σ' G' H' i z => h σ' G' H' i (s.trans z)
  | rt a e => exact fun v σ' G' H' H1 i z => h v σ' G' H' H1 i (s.trans z)
  | ex c e => exact fun cls d σ' G' H' i z => h cls d σ' G' H' i (s.trans z)
  | bad => exact h
/-- an expression, then what is done with it -/
theorem PostS.so {rs : RS ν α} {Q : ν → Hp → Prop} {x : Rs ε α} {f : α → ε → So ε ρ} (h : PostS M R rr F G D (x.so f))
    (k : ∀ v a e1 G1 H1 H1', IV F G1 H1 → Sub G G1 → rs.rel M.K F G1 H1 v a H1' → R.rel M.K F G1 H1' σ e1 → PostS M R rr F G1 D (f a e1) → Q v H1) : Post M R F G σ rs Q x := by
  cases x with
  | ok a e => exact fun v G' H' H1 i s hr hR => k v a e G' H' H1 i s hr hR (PostS.up h s)
  | ex c e => exact fun cls d G' H' i s hR hx => h cls d σ G' H' i s hR hx
  | bad => exact h
def mSeq (m n : ε → So ε ρ) : ε → So ε ρ := fun e => match m e with
  | .nx e1 => n e1 | .rt a e1 => .rt a e1 | .bk e1 => .bk e1 | .ct e1 => .ct e1 | .ex c e1 => .ex c e1 | .bad => .bad
def mNext : ε → So ε ρ := .nx
def mBrk : ε → So ε ρ := .bk
def mCt : ε → So ε ρ := .ct
def mRet (m : ε → Rs ε ρ) : ε → So ε ρ := fun e => (m e).so .rt
def mDrop (m : ε → Rs ε α) : ε → So ε ρ := fun e => (m e).so fun _ e1 => .nx e1
def mIfS (c : ε → Rs ε Bool) (m n : ε → So ε ρ) : ε → So ε ρ := fun e => (c e).so fun b e1 => if b = true then m e1 else n e1
/-- names that are done with -/
def mKill (k : ε → ε) (m : ε → So ε ρ) : ε → So ε ρ := fun e => match m e with
  | .nx e1 => .nx (k e1) | .rt a e1 => .rt a e1 | .bk e1 => .bk (k e1) | .ct e1 => .ct (k e1) | .ex c e1 => .ex c e1 | .bad => .bad
structure Kl (R : ERep ε) (k : ε → ε) : Prop where
  kl : ∀ {K F G H σ e}, R.rel K F G H σ e → R.rel K F G H σ (k e)
theorem Kl.fr {n : Nat} {r : Rep α} {l : Ln ε α} (a : FrAt R n r l) : Kl R (l.put none) := ⟨a.kl⟩
theorem Kl.ow {n : Nat} {own : Frm → Addr → Prop} {q : ORep α} {l : Ln ε α} (a : OwAt R n own q l) : Kl R (l.put none) := ⟨a.kl⟩
theorem Kl.and {k k' : ε → ε} (a : Kl R k) (b : Kl R k') : Kl R (fun e => k (k' e)) := ⟨fun h => a.kl (b.kl h)⟩
theorem s_kill {t : TS} {m : ε → So ε ρ} {k : ε → ε} (a : Kl R k) (h : SX M R rr t m) : SX M R rr t (mKill k m) := fun F G H σ e i hR D p => by
  refine h F G H σ e i hR D ?_
  unfold mKill at p
  revert p
  cases m e with
  | nx e1 => exact fun p σ' G' H' i1 s1 R1 => p σ' G' H' i1 s1 (a.kl R1)
  | bk e1 => exact fun p σ' G' H' i1 s1 R1 => p σ' G' H' i1 s1 (a.kl R1)
  | ct e1 => exact fun p σ' G' H' i1 s1 R1 => p σ' G' H' i1 s1 (a.kl R1)
  | rt a e1 => exact id
  | ex c e1 => exact id
  | bad => exact id
theorem s_seq {t u : TS} {m n : ε → So ε ρ} (h : SX M R rr t m) (k : SX M R rr u n) : SX M R rr (tSeq t u) (mSeq m n) := fun F G H σ e i hR D p => by
  refine h F G H σ e i hR _ ?_
  unfold mSeq at p
  revert p
  cases m e with
  | nx e1 => exact fun p σ' G' H' i1 s1 R1 => k F G' H' σ' e1 i1 R1 D (p.up s1)
  | bk e1 => exact id
  | ct e1 => exact id
  | rt a e1 => exact id
  | ex c e1 => exact id
  | bad => exact id
theorem s_cut {t u : TS} {m n : ε → So ε ρ} (h : SX M R rr t m) (k : SX M R rr u n) : SX M R rr (tCut t u) (mSeq m n) := fun F G H σ e i hR D p => by
  refine ⟨fun σ' H' => u D σ' H', ?_, fun _ _ h => h⟩
  exact s_seq h k F G H σ e i hR D p
def mCut (m n : ε → So ε ρ) : ε → So ε ρ := mSeq m n
theorem s_cutC {t u : TS} {m n : ε → So ε ρ} (h : SX M R rr t m) (k : SX M R rr u n) : SX M R rr (tCut t u) (mCut m n) := s_cut h k
theorem s_seqC {t u : TS} {m n : ε → So ε ρ} (h : SX M R rr t m) (k : SX M R rr u n) : SX M R rr (tSeq t u) (mCut m n) := s_seq h k
theorem s_next : SX M R rr tNext mNext := fun F G H σ e i hR D p => p σ G H i .refl hR
theorem s_ret {t : TE} {m : ε → Rs ε ρ} (h : EX M R t rr m) : SX M R rr (tRet t) (mRet m) := fun F G H σ e i hR D p =>
  h F G H σ e i hR _ (p.so fun v a e1 G1 H1 H1' i1 s1 hr R1 p1 => p1 v σ G1 H1 H1' i1 .refl hr R1)
theorem s_drop {t : TE} {r : Rep α} {m : ε → Rs ε α} (h : EX M R t (fz r) m) : SX M R rr (tDrop t) (mDrop m) := fun F G H σ e i hR D p =>
  h F G H σ e i hR _ (p.so fun v a e1 G1 H1 H1' i1 s1 hr R1 p1 => p1 σ G1 H1 i1 .refl (hr.2 ▸ R1))
theorem s_if {c : TT} {t u : TS} {mc : ε → Rs ε Bool} {m n : ε → So ε ρ} (hc : EX M R c (fz bR) mc) (h : SX M R rr t m) (k : SX M R rr u n) : SX M R rr (tIfS c t u) (mIfS mc m n) := fun F G H σ e i hR D p =>
  hc F G H σ e i hR _ (p.so fun v a e1 G1 H1 H1' i1 s1 hr R1 p1 => by
    have e : v = a := hr.1
    subst e
    rw [hr.2] at R1
    cases v with
    | true => exact h F G1 H1 σ e1 i1 R1 D p1
    | false => exact k F G1 H1 σ e1 i1 R1 D p1)
def mIfB (c : ε → Rs ε Bool) (m n : ε → So ε ρ) : ε → So ε ρ := mIfS c m n
theorem s_ifB {c : TT} {t u : TS} {mc : ε → Rs ε Bool} {m n : ε → So ε ρ} (hc : EX M R c (fz bR) mc) (h : SX M R rr t m) (k : SX M R rr u n) : SX M R rr (tIfS c t u) (mIfB mc m n) := s_if hc h k
def mAsg (m : ε → Rs ε α) (pt : α → ε → Rs ε Unit) : ε → So ε ρ := fun e => (m e).so fun a e1 => (pt a e1).so fun _ e2 => .nx e2
/-- x = e, frozen; x = e, an own new object -/
def mSet (l : Ln ε α) (m : ε → Rs ε α) : ε → So ε ρ := fun e => (m e).so fun a e1 => .nx (l.put (some a) e1)
theorem s_set {n : Nat} {t : TE} {r : Rep α} {l : Ln ε α} {m : ε → Rs ε α} (at' : FrAt R n r l) (h : EX M R t (fz r) m) : SX M R rr (tAsg t (gName n)) (mSet l m) := fun F G H σ e i hR D p =>
  h F G H σ e i hR _ (p.so fun v a e1 G1 H1 H1' i1 s1 hr R1 p1 => p1 _ G1 H1 i1 .refl (at'.wr (hr.2 ▸ R1) hr.1))
theorem s_setO {n : Nat} {t : TE} {q : ORep α} {l : Ln ε α} {m : ε → Rs ε α} (at' : OwAt R n ownN q l) (h : EX M R t (fs q) m) : SX M R rr (tAsg t (gName n)) (mSet l m) := fun F G H σ e i hR D p =>
  h F G H σ e i hR _ (p.so fun v a e1 G1 H1 H1' i1 s1 hr R1 p1 => by
    obtain ⟨L, ho, rfl, h1, h2, h3, h4, rfl⟩ := hr
    exact p1 _ G1 H1 i1 .refl (at'.wr R1 h1 h2 h3 h4))
end
section
variable {ν ν' α β γ ε ρ : Type} {M : Mx} {R : ERep ε} {F : Frm} {G G1 H : Hp} {σ : Sg} {rr : RS V ρ} {D : Ends}
section
variable {ta tb : TE} {r : Rep α} {i1 : IR V α} {i2 : IR V β} {r' : Rep γ} {q' : ORep γ} {g : α → β → Option γ} {m : ε → Rs ε α} {n : ε → Rs ε β} {T : R2}
theorem x_tOp (vr : VR2 M.K T i1 i2 r' g) (cv : Cv r i1) (h : EX M R ta (fz r) m) (k : EX M R tb (is i2) n) : EX M R (tOp T ta tb) (fz r') (mOp g m n) := x_op (t := ta) (u := tb) (T := T) vr cv h k
theorem x_tOpF (vr : VF2 M.K T i1 i2 q' g) (cv : Cv r i1) (h : EX M R ta (fz r) m) (k : EX M R tb (is i2) n) : EX M R (tOp T ta tb) (fs q') (mOp g m n) := x_opF (t := ta) (u := tb) (T := T) vr cv h k
theorem x_tOpL {k : Nat} {l : Ln ε α} {q : ORep α} (vr : VR2 M.K T (rd q) i2 r' g) (at' : Late R k q l) (h : EX M R tb (is i2) n) : EX M R (tOp T (tVar k) tb) (fz r') (mOpL g l n) := x_opL (u := tb) (T := T) vr at' h
end
theorem x_tUn {ta : TE} {T : V → Hp → VK → Prop} {i1 : IR V α} {r' : Rep β} {g : α → Option β} {m : ε → Rs ε α} (vr : VR M.K T i1 r' g) (h : EX M R ta (is i1) m) : EX M R (tUn T ta) (fz r') (mUn g m) := x_un (t := ta) (T := T) vr h
theorem x_tCB {t : TA} {T : List V → Hp → VK → Prop} {i1 : IR (List V) α} {r' : Rep β} {g : α → Option β} {m : ε → Rs ε α} (vr : VR M.K T i1 r' g) (h : EX M R t (is i1) m) : EX M R (tCB T t) (fz r') (mUn g m) := x_un (t := t) (T := T) vr h
theorem x_tCBF {t : TA} {T : List V → Hp → VK → Prop} {i1 : IR (List V) α} {q' : ORep β} {g : α → Option β} {m : ε → Rs ε α} (vr : VF M.K T i1 q' g) (h : EX M R t (is i1) m) : EX M R (tCB T t) (fs q') (mUn g m) := x_unF (t := t) (T := T) vr h
def mPart (m : ε → Rs ε Int) : ε → Rs ε (Option Int) := fun e => (m e).bind fun a e1 => .ok (some a) e1
theorem x_noPart : EX M R tNoPart (fz ioR) (mC none) := fun F G H σ e i hR Q p => p none G H H i .refl ⟨rfl, rfl⟩ hR
theorem x_part {t : TE} {m : ε → Rs ε Int} (h : EX M R t (fz rI) m) : EX M R (tPart t) (fz ioR) (mPart m) := fun F G H σ e i hR Q p =>
  h F G H σ e i hR _ (p.bind fz_h fun v a e1 G1 H1 i1 s1 R1 r1 p1 => ⟨a, r1.1, p1 (some a) G1 H1 H1 i1 .refl ⟨rfl, rfl⟩ R1⟩)
def mSl (g : α → Option Int → Option Int → Option β) (m : ε → Rs ε α) (lo hi : ε → Rs ε (Option Int)) : ε → Rs ε β := fun e => (m e).bind fun a e1 => (lo e1).bind fun l e2 => (hi e2).bind fun u e3 => .of (g a l u) e3
def VSlF (K : PySem.W.Frag) (T : V → Option Int → Option Int → Hp → VK → Prop) (i : IR V α) (q' : ORep β) (g : α → Option Int → Option Int → Option β) : Prop := ∀ l u, VF K (fun x H Q => T x l u H Q) i q' fun a => g a l u
theorem x_slF {T : V → Option Int → Option Int → Hp → VK → Prop} {t : TE} {tl th : TO} {r : Rep α} {i' : IR V α} {q' : ORep β} {g : α → Option Int → Option Int → Option β} {m : ε → Rs ε α} {lo hi : ε → Rs ε (Option Int)}
    (vr : VSlF M.K T i' q' g) (cv : Cv r i') (h : EX M R t (fz r) m) (hl : EX M R tl (fz ioR) lo) (hh : EX M R th (fz ioR) hi) : EX M R (tSl T t tl th) (fs q') (mSl g m lo hi) := fun F G H σ e i hR Q p =>
  h F G H σ e i hR _ (p.bind fz_h fun v a e1 G1 H1 i1 s1 R1 r1 p1 => hl F G1 H1 σ e1 i1 R1 _ (p1.bind fz_h fun l' l e2 G2 H2 i2 s2 R2 r2 p2 => hh F G2 H2 σ e2 i2 R2 _ (p2.bind fz_h fun u' u e3 G3 H3 i3 s3 R3 r3 p3 => by
    obtain rfl : l' = l := r2.1
    obtain rfl : u' = u := r3.1
    obtain ⟨b, hb, p4⟩ := of_some p3
    exact vr l' u' G3 H3 v a b Q i3.gh (cv _ _ _ _ _ i3.gh (r.mono (s2.trans s3) r1.1)) hb (p4.finF i3 R3))))
/-- the slice of a name's object -/
def mSlL (g : α → Option Int → Option Int → Option β) (l : Ln ε α) (lo hi : ε → Rs ε (Option Int)) : ε → Rs ε β := fun e => match l.get e with
  | none => .bad
  | some _ => (lo e).bind fun l1 e2 => (hi e2).bind fun u e3 => (mVar l e3).bind fun a e4 => .of (g a l1 u) e4
theorem x_slLF {n : Nat} {ln : Ln ε α} {q : ORep α} {T : V → Option Int → Option Int → Hp → VK → Prop} {tl th : TO} {q' : ORep β} {g : α → Option Int → Option Int → Option β} {lo hi : ε → Rs ε (Option Int)}
    (vr : VSlF M.K T (rd q) q' g) (at' : Late R n q ln) (hl : EX M R tl (fz ioR) lo) (hh : EX M R th (fz ioR) hi) : EX M R (tSl T (tVar n) tl th) (fs q') (mSlL g ln lo hi) := fun F G H σ e i hR Q p => by
  unfold mSlL at p
  cases h0 : ln.get e with
  | none => rw [h0] at p; exact p.elim
  | some a0 =>
    rw [h0] at p
    obtain ⟨L0, ho0, h1, _⟩ := at'.rd i hR h0
    refine ⟨_, h1, hl F G H σ e i hR _ (p.bind fz_h fun l' l e2 G2 H2 i2 s2 R2 r2 p2 => hh F G2 H2 σ e2 i2 R2 _ (p2.bind fz_h fun u' u e3 G3 H3 i3 s3 R3 r3 p3 => ?_))⟩
    obtain rfl : l' = l := r2.1
    obtain rfl : u' = u := r3.1
    unfold mVar at p3
    cases h2 : ln.get e3 with
    | none => rw [h2] at p3; exact p3.elim
    | some a1 =>
      rw [h2] at p3
      obtain ⟨L, ho, h3, h4, h5⟩ := at'.rd i3 R3 h2
      rw [h1] at h3
      cases h3
      obtain ⟨c, hc, p4⟩ := of_some p3
      exact vr l' u' G3 H3 _ a1 c Q i3.gh ⟨_, ho, rfl, h4, h5⟩ hc (p4.finF i3 R3)
theorem wipe_out (x : Option V) (n : Nat) : ∀ (σ : Sg) (vs : List Nat), wipe (σ.set n x) vs = if n ∈ vs then wipe σ vs else (wipe σ vs).set n x
  | σ, [] => by simp [wipe]
  | σ, v :: vs => by
    unfold wipe
    rw [wipe_out x n σ vs]
    by_cases h : n ∈ vs
    · simp [h]
    · by_cases e : n = v
      · subst e
        simp [h, List.set_set]
      · rw [if_neg h, if_neg (by simp [e, h])]
        exact List.set_comm _ _ e
theorem wipe_in {x : Option V} {n : Nat} {σ : Sg} {vs : List Nat} (h : n ∈ vs) : wipe (σ.set n x) vs = wipe σ vs := by rw [wipe_out, if_pos h]
def TGN (M : Mx) (R : ERep ε) (g : TG) (r : Rep α) (vs : List Nat) (pt : α → ε → ε) : Prop := ∀ F G H σ e v a, IV F G H → R.rel M.K F G H σ e → r.rel M.K G v a → ∀ Q, (∀ σ', wipe σ' vs = wipe σ vs → R.rel M.K F G H σ' (pt a e) → Q σ' H) → g v σ H Q
def pN (l : Ln ε α) : α → ε → ε := fun a e => l.put (some a) e
theorem n_name {n : Nat} {r : Rep α} {l : Ln ε α} {vs : List Nat} (at' : FrAt R n r l) (hn : n ∈ vs) : TGN M R (gName n) r vs (pN l) := fun F G H σ e v a i hR hr Q k => k _ (wipe_in hn) (at'.wr hR hr)
def p2 (p : α → ε → ε) (p' : β → ε → ε) : α × β → ε → ε := fun ab e => p' ab.2 (p ab.1 e)
def p3 (p : α → ε → ε) (p' : β → ε → ε) (p'' : γ → ε → ε) : α × β × γ → ε → ε := fun ab e => p'' ab.2.2 (p' ab.2.1 (p ab.1 e))
theorem sqt_of {K : PySem.W.Frag} {G H : Hp} {L : Addr} {vs : List V} (s : Sub G H) (h : G L = some (.tup vs)) : SqT K H L vs := .inl (.inl (s _ _ h))
theorem sql_of {K : PySem.W.Frag} {G H : Hp} {L : Addr} {vs : List V} (s : Sub G H) (h : G L = some (.lst vs)) : SqL K H L vs := .inl (.inl (s _ _ h))
theorem n_tup2 {g g' : TG} {r : Rep α} {r' : Rep β} {vs : List Nat} {p : α → ε → ε} {p' : β → ε → ε} (h : TGN M R g r vs p) (h' : TGN M R g' r' vs p') : TGN M R (gTup M.K 2 (gCons g (gCons g' gNil))) (rT2 r r') vs (p2 p p') := fun F G H σ e v a i hR hr Q k => by
  obtain ⟨L, ho, rfl, hg, x, y, rfl, hx, hy⟩ := hr
  refine ⟨L, _, rfl, sqt_of i.gh hg, rfl, x, _, rfl, h F G H σ e x a.1 i hR hx _ fun σ1 w1 R1 => ⟨y, _, rfl, h' F G H σ1 _ y a.2 i R1 hy _ fun σ2 w2 R2 => ⟨rfl, k σ2 (w2.trans w1) R2⟩⟩⟩
theorem n_tup3 {g g' g'' : TG} {r : Rep α} {r' : Rep β} {r'' : Rep γ} {vs : List Nat} {p : α → ε → ε} {p' : β → ε → ε} {p'' : γ → ε → ε} (h : TGN M R g r vs p) (h' : TGN M R g' r' vs p') (h'' : TGN M R g'' r'' vs p'') :
    TGN M R (gTup M.K 3 (gCons g (gCons g' (gCons g'' gNil)))) (rT3 r r' r'') vs (p3 p p' p'') := fun F G H σ e v a i hR hr Q k => by
  obtain ⟨L, ho, rfl, hg, x, y, z, rfl, hx, hy, hz⟩ := hr
  refine ⟨L, _, rfl, sqt_of i.gh hg, rfl, x, _, rfl, h F G H σ e x a.1 i hR hx _ fun σ1 w1 R1 => ⟨y, _, rfl, h' F G H σ1 _ y a.2.1 i R1 hy _ fun σ2 w2 R2 => ⟨z, _, rfl, h'' F G H σ2 _ z a.2.2 i R2 hz _ fun σ3 w3 R3 => ⟨rfl, k σ3 (w3.trans (w2.trans w1)) R3⟩⟩⟩⟩
/-- a, b = e -/
def mAsgN (m : ε → Rs ε α) (pt : α → ε → ε) : ε → So ε ρ := fun e => (m e).so fun a e1 => .nx (pt a e1)
theorem s_asgN {t : TE} {g : TG} {r : Rep α} {vs : List Nat} {m : ε → Rs ε α} {pt : α → ε → ε} (h : EX M R t (fz r) m) (hg : TGN M R g r vs pt) : SX M R rr (tAsg t g) (mAsgN m pt) := fun F G H σ e i hR D p =>
  h F G H σ e i hR _ (p.so fun v a e1 G1 H1 H1' i1 s1 hr R1 p1 => by
    rw [hr.2] at R1
    exact hg F G1 H1 σ e1 v a i1 R1 hr.1 _ fun σ' _ R2 => p1 σ' G1 H1 i1 .refl R2)
structure Wp (R : ERep ε) (vs : List Nat) (kill : ε → ε) (rst : ε → ε → ε) : Prop where
  kl : ∀ {K F G H σ e}, R.rel K F G H σ e → R.rel K F G H (wipe σ vs) (kill e)
  rs : ∀ {K F G H G' H' σ e e'}, R.rel K F G H σ e → Sub G G' → R.rel K F G' H' (wipe σ vs) e' → R.rel K F G' H' σ (rst e e')
theorem Wp.nil : Wp R [] id (fun _ e' => e') := ⟨fun h => h, fun _ _ h => h⟩
theorem Wp.cons {n : Nat} {r : Rep α} {l : Ln ε α} {vs : List Nat} {kill : ε → ε} {rst : ε → ε → ε} (at' : FrAt R n r l) (w : Wp R vs kill rst) : Wp R (n :: vs) (fun e => l.put none (kill e)) (fun e e' => rst e (l.put (l.get (kill e)) e')) :=
  ⟨fun h => at'.wn (w.kl h), fun h s h' => w.rs h s (at'.rs (w.kl h) s h')⟩
def Walk (K : PySem.W.Frag) (J : It) (F : Frm) (G : Hp) (r : Rep α) (xs : List α) : Prop := ∀ i G' H', IV F G' H' → Sub G G' →
  (xs.length ≤ i → J.stop i H') ∧ ∀ x, xs[i]? = some x → J.go i H' ∧ ∀ v H'', J.yld i H' v H'' → ∃ G'', Stp G' H' G'' H'' ∧ r.rel K G'' v x
def walkS (r : Rep α) : RS It (List α) := ⟨fun K F G H J xs H1 => Walk K J F G r xs ∧ H1 = H⟩
theorem x_iL {t : TE} {r : Rep α} {m : ε → Rs ε (List α)} (h : EX M R t (fz (rL r)) m) : EX M R (iList M.K t) (walkS r) m := fun F G H σ e i hR Q p => by
  refine h F G H σ e i hR _ ?_
  revert p
  cases m e with
  | ok a e' =>
    rintro p v G' H' H1 i1 s1 ⟨⟨L, ho, rfl, hg, vs, rfl, ha⟩, rfl⟩ R1
    refine ⟨L, rfl, ⟨vs, sql_of i1.gh hg⟩, p _ G' _ _ i1 s1 ⟨fun k G2 H2 i2 s2 => ?_, rfl⟩ R1⟩
    have q : SqL M.K H2 L vs := sql_of i2.gh (s2 _ _ hg)
    refine ⟨fun hk => ⟨vs, q, by rw [ha.length]; exact hk⟩, fun x hx => ?_⟩
    obtain ⟨v, hv, hr⟩ := ha.get hx
    refine ⟨⟨vs, v, q, hv⟩, fun v' H'' hy => ?_⟩
    obtain ⟨rfl, hy⟩ := hy
    have := hy vs q
    rw [hv] at this
    cases this
    exact ⟨G2, .refl i2.gh, r.mono s2 hr⟩
  | ex c e' => exact id
  | bad => exact id
theorem x_iT {t : TE} {r : Rep α} {m : ε → Rs ε (List α)} (h : EX M R t (fz (rT r)) m) : EX M R (iTup M.K t) (walkS r) m := fun F G H σ e i hR Q p => by
  refine h F G H σ e i hR _ ?_
  revert p
  cases m e with
  | ok a e' =>
    rintro p v G' H' H1 i1 s1 ⟨⟨L, ho, rfl, hg, vs, rfl, ha⟩, rfl⟩ R1
    refine ⟨L, rfl, ⟨vs, sqt_of i1.gh hg⟩, p _ G' _ _ i1 s1 ⟨fun k G2 H2 i2 s2 => ?_, rfl⟩ R1⟩
    have q : SqT M.K H2 L vs := sqt_of i2.gh (s2 _ _ hg)
    refine ⟨fun hk => ⟨vs, q, by rw [ha.length]; exact hk⟩, fun x hx => ?_⟩
    obtain ⟨v, hv, hr⟩ := ha.get hx
    refine ⟨⟨vs, v, q, hv⟩, fun v' H'' hy => ?_⟩
    obtain ⟨rfl, hy⟩ := hy
    have := hy vs q
    rw [hv] at this
    cases this
    exact ⟨G2, .refl i2.gh, r.mono s2 hr⟩
  | ex c e' => exact id
  | bad => exact id
/-- a borrowed list -/
theorem x_iLB {n : Nat} {l : Ln ε (List α)} {r : Rep α} (at' : BoAt R n (oL r) l) : EX M R (iList M.K (tVar n)) (walkS r) (mVar l) := fun F G H σ e i hR Q p => by
  obtain ⟨a, ha, p2⟩ := of_some p
  obtain ⟨L, ho, h1, h2, h3, vs, rfl, h5⟩ := at'.rd hR ha
  have q : ∀ {G2 H2 : Hp}, IV F G2 H2 → SqL M.K H2 L vs := fun i2 => .inl (.inl (i2.fr _ _ h3 h2))
  refine ⟨.ref L, h1, L, rfl, ⟨vs, q i⟩, p2 _ G H H i .refl ⟨fun k G2 H2 i2 s2 => ?_, rfl⟩ hR⟩
  refine ⟨fun hk => ⟨vs, q i2, by rw [h5.length]; exact hk⟩, fun x hx => ?_⟩
  obtain ⟨v, hv, hr⟩ := h5.get hx
  refine ⟨⟨vs, v, q i2, hv⟩, fun v' H'' hy => ?_⟩
  obtain ⟨rfl, hy⟩ := hy
  have := hy vs (q i2)
  rw [hv] at this
  cases this
  exact ⟨G2, .refl i2.gh, r.mono s2 hr⟩
/-- a range's numbers -/
def rng (lo hi : Int) : List Int := (List.range (hi - lo).toNat).map fun (k : Nat) => lo + (k : Int)
theorem rng_length {lo hi : Int} : (rng lo hi).length = (hi - lo).toNat := by simp [rng]
theorem rng_get {lo hi : Int} {i : Nat} {x : Int} (h : (rng lo hi)[i]? = some x) : i < (hi - lo).toNat ∧ x = lo + i := by
  unfold rng at h
  rw [List.getElem?_map] at h
  cases z : (List.range (hi - lo).toNat)[i]? with
  | none => rw [z] at h; cases h
  | some k =>
    rw [z] at h
    obtain ⟨h1, h2⟩ := List.getElem?_eq_some_iff.mp z
    rw [List.length_range] at h1
    rw [List.getElem_range] at h2
    cases h
    exact ⟨h1, by rw [← h2]⟩
theorem walk_rng {K : PySem.W.Frag} {lo hi : Int} : Walk K (Itr lo (hi - lo).toNat) F G rI (rng lo hi) := fun i G' H' iv s => by
  refine ⟨fun h => by rw [rng_length] at h; exact h, fun x hx => ?_⟩
  obtain ⟨h1, h2⟩ := rng_get hx
  refine ⟨h1, fun v H'' hy => ?_⟩
  obtain ⟨rfl, hy⟩ := hy
  exact ⟨G', .refl iv.gh, by rw [hy, h2]; rfl⟩
def bigI (i : Int) : Bool := decide (-(2 ^ 62) ≤ i) && decide (i < 2 ^ 62)
def mRng1 (m : ε → Rs ε Int) : ε → Rs ε (List Int) := fun e => (m e).bind fun n e1 => if bigI n = true then .ok (rng 0 n) e1 else .bad
theorem x_rng1 {t : TA} {m : ε → Rs ε Int} (h : EX M R t (is (aOne (ir rI))) m) : EX M R (iRng1 t) (walkS rI) (mRng1 m) := fun F G H σ e i hR Q p =>
  h F G H σ e i hR _ (p.bind is_h fun vs n e1 G1 H1 i1 s1 R1 r1 p1 => by
    obtain ⟨⟨v, rfl, rfl⟩, _⟩ := r1
    by_cases hb : bigI n = true
    · rw [if_pos hb] at p1
      have hb' := hb
      simp only [bigI, Bool.and_eq_true, decide_eq_true_eq] at hb'
      refine ⟨n, rfl, hb'.1, hb'.2, p1 _ G1 H1 H1 i1 .refl ⟨?_, rfl⟩ R1⟩
      have := walk_rng (F := F) (G := G1) (K := M.K) (lo := 0) (hi := n)
      rw [Int.sub_zero] at this
      exact this
    · rw [if_neg hb] at p1
      exact p1.elim)
def mRng2 (m : ε → Rs ε (Int × Int)) : ε → Rs ε (List Int) := fun e => (m e).bind fun n e1 => if bigI n.1 = true ∧ bigI n.2 = true then .ok (rng n.1 n.2) e1 else .bad
/-- numbered -/
def enumF (xs : List α) : List (Int × α) := xs.zipIdx.map fun p => ((p.2 : Int), p.1)
theorem enumF_length {xs : List α} : (enumF xs).length = xs.length := by simp [enumF]
theorem enumF_get {xs : List α} {i : Nat} {p : Int × α} (h : (enumF xs)[i]? = some p) : p.1 = i ∧ xs[i]? = some p.2 := by
  unfold enumF at h
  rw [List.getElem?_map, List.getElem?_zipIdx] at h
  cases z : xs[i]? with
  | none => rw [z] at h; cases h
  | some x => rw [z] at h; simp at h; subst h; exact ⟨rfl, rfl⟩
def mEnum (m : ε → Rs ε (List α)) : ε → Rs ε (List (Int × α)) := fun e => (m e).bind fun xs e1 => .ok (enumF xs) e1
theorem x_enum {t : TE} {r : Rep α} {m : ε → Rs ε (List α)} (h : EX M R t (fz (rL r)) m) : EX M R (iEnum M.K (tCons t tNil)) (walkS (rT2 rI r)) (mEnum m) := fun F G H σ e i hR Q p =>
  h F G H σ e i hR _ (p.bind fz_h fun v a e1 G' H' i1 s1 R1 r1 p1 => by
    obtain ⟨⟨L, ho, rfl, hg, vs, rfl, ha⟩, _⟩ := r1
    refine ⟨L, vs, rfl, sql_of i1.gh hg, p1 _ G' _ _ i1 .refl ⟨fun k G2 H2 i2 s2 => ?_, rfl⟩ R1⟩
    have q : SqL M.K H2 L vs := sql_of i2.gh (s2 _ _ hg)
    refine ⟨fun hk => ⟨vs, q, by rw [ha.length]; rw [enumF_length] at hk; exact hk⟩, fun x hx => ?_⟩
    obtain ⟨hx1, hx2⟩ := enumF_get hx
    obtain ⟨v, hv, hr⟩ := ha.get hx2
    refine ⟨⟨vs, v, q, hv⟩, fun v' H'' hy => ?_⟩
    obtain ⟨T, y, rfl, hT, rfl, hy⟩ := hy
    have := hy vs q
    rw [hv] at this
    cases this
    exact ⟨upd G2 T _, .new i2.gh hT, T, _, rfl, upd_same, _, _, rfl, by rw [hx1]; rfl, r.mono (s2.trans (sub_upd (i2.gh.no hT))) hr⟩)
def mLoop (b : α → ε → So ε ρ) : List α → ε → So ε ρ
  | [], e => .nx e
  | x :: xs, e => match b x e with
    | .nx e1 => mLoop b xs e1 | .ct e1 => mLoop b xs e1 | .bk e1 => .nx e1 | .rt a e1 => .rt a e1 | .ex c e1 => .ex c e1 | .bad => .bad
def mFor (m : ε → Rs ε (List α)) (pt : α → ε → ε) (b : ε → So ε ρ) : ε → So ε ρ := fun e => (m e).so fun xs e1 => mLoop (fun x e => b (pt x e)) xs e1
theorem s_for {wi : TI} {g : TG} {tb : TS} {r : Rep α} {vs : List Nat} {m : ε → Rs ε (List α)} {pt : α → ε → ε} {b : ε → So ε ρ} (h : EX M R wi (walkS r) m) (hg : TGN M R g r vs pt) (hb : SX M R rr tb b) : SX M R rr (tFor wi g tb) (mFor m pt b) := fun F G H σ e i hR D p =>
  h F G H σ e i hR _ (p.so fun J xs e1 G1 H1 H1' i1 s1 hr R1 p1 => by
    rw [hr.2] at R1
    refine ⟨fun i m σ' H' => m = xs.length - i ∧ i ≤ xs.length ∧ ∃ G' e', IV F G' H' ∧ Sub G1 G' ∧ R.rel M.K F G' H' σ' e' ∧ PostS M R rr F G' D (mLoop (fun x e => b (pt x e)) (xs.drop i) e'),
      ⟨xs.length, rfl, Nat.zero_le _, G1, e1, i1, .refl, R1, p1⟩, ?_⟩
    rintro k m σ' H' ⟨rfl, hk, G', e', i', s', R', p'⟩
    have hw := hr.1 k G' H' i' s'
    by_cases hlt : k < xs.length
    · rw [List.drop_eq_getElem_cons hlt] at p'
      obtain ⟨h1, h2⟩ := hw.2 xs[k] (List.getElem?_eq_getElem hlt)
      refine .inr ⟨h1, fun σ2 H2 => k + 1 ≤ xs.length ∧ ∃ G' e', IV F G' H2 ∧ Sub G1 G' ∧ R.rel M.K F G' H2 σ2 e' ∧ PostS M R rr F G' D (mLoop (fun x e => b (pt x e)) (xs.drop (k + 1)) e'), fun σ2 H2 hN => ⟨xs.length - (k + 1), by omega, rfl, hN⟩, fun v H'' hy => ?_⟩
      obtain ⟨G2, st, rv⟩ := h2 v H'' hy
      have i2 := i'.step st
      refine hg F G2 H'' σ' e' v _ i2 (R.mono st.g st.h st.n R') rv _ fun σ2 _ R2 => hb F G2 H'' σ2 _ i2 R2 _ ?_
      unfold mLoop at p'
      revert p'
      cases b (pt xs[k] e') with
      | nx e3 => exact fun p' σ3 G3 H3 i3 s3 R3 => ⟨hlt, G3, e3, i3, s'.trans (st.g.trans s3), R3, p'.up (st.g.trans s3)⟩
      | ct e3 => exact fun p' σ3 G3 H3 i3 s3 R3 => ⟨hlt, G3, e3, i3, s'.trans (st.g.trans s3), R3, p'.up (st.g.trans s3)⟩
      | bk e3 => exact fun p' σ3 G3 H3 i3 s3 R3 => p' σ3 G3 H3 i3 (st.g.trans s3) R3
      | rt a e3 => exact fun p' v σ3 G3 H3 H3' i3 s3 => p' v σ3 G3 H3 H3' i3 (st.g.trans s3)
      | ex c e3 => exact fun p' cls d σ3 G3 H3 i3 s3 => p' cls d σ3 G3 H3 i3 (st.g.trans s3)
      | bad => exact id
    · have e0 : xs.drop k = [] := List.drop_eq_nil_of_le (by omega)
      rw [e0] at p'
      exact .inl ⟨hw.1 (by omega), p' σ' G' H' i' .refl R'⟩)
/-- what raises nothing -/
def Rs.bindN {ε α β : Type} (x : Rs ε α) (f : α → ε → Rs ε β) : Rs ε β := match x with
  | .ok a e => f a e | .ex _ _ => .bad | .bad => .bad
@[simp] theorem Rs.bindN_ok {ε α β : Type} {a : α} {e : ε} {f : α → ε → Rs ε β} : (Rs.ok a e).bindN f = f a e := rfl
theorem wipe_wipe (σ : Sg) (vs : List Nat) : wipe (wipe σ vs) vs = wipe σ vs := by
  suffices h : ∀ us : List Nat, (∀ u ∈ us, u ∈ vs) → wipe (wipe σ us) vs = wipe σ vs from h vs fun _ h => h
  intro us
  induction us with
  | nil => intro _; rfl
  | cons u us ih =>
    intro h
    show wipe ((wipe σ us).set u none) vs = _
    rw [wipe_in (h u List.mem_cons_self)]
    exact ih fun x hx => h x (List.mem_cons_of_mem _ hx)
def lcR (pt : α → ε → ε) (tt : ε → Rs ε Bool) (te : ε → Rs ε β) (kill : ε → ε) : List α → ε → List β → Rs ε (List β)
  | [], e, acc => .ok acc e
  | x :: xs, e, acc => (tt (pt x e)).bindN fun b e1 => if b = true then (te e1).bindN fun y e2 => lcR pt tt te kill xs (kill e2) (acc ++ [y]) else lcR pt tt te kill xs (kill e1) acc
def mLc (it : ε → Rs ε (List α)) (pt : α → ε → ε) (tt : ε → Rs ε Bool) (te : ε → Rs ε β) (kill : ε → ε) (rst : ε → ε → ε) : ε → Rs ε (List β) := fun e => (it e).bind fun xs e1 => if xs.length ≤ 1000000 then (lcR pt tt te kill xs (kill e1) []).bind fun ys e2 => .ok ys (rst e1 e2) else .bad
def mYes : ε → Rs ε Bool := fun e => .ok true e
theorem x_yes : EX M R tYes (fz bR) mYes := fun F G H σ e i hR Q p => p true G H H i .refl ⟨rfl, rfl⟩ hR
theorem x_lc {wi : TI} {g : TG} {tt : TT} {te : TE} {r : Rep α} {rb : Rep β} {vs : List Nat} {it : ε → Rs ε (List α)} {pt : α → ε → ε} {mt : ε → Rs ε Bool} {me : ε → Rs ε β} {kill : ε → ε} {rst : ε → ε → ε}
    (h : EX M R wi (walkS r) it) (w : Wp R vs kill rst) (hg : TGN M R g r vs pt) (ht : EX M R tt (fz bR) mt) (he : EX M R te (fz rb) me) : EX M R (tLc wi g tt te vs) (fs (oL rb)) (mLc it pt mt me kill rst) := fun F G H σ e i hR Q p =>
  h F G H σ e i hR _ (by
    unfold mLc at p
    revert p
    cases it e with
    | bad => exact id
    | ex c e' => exact id
    | ok xs e1 =>
      intro p J G1 H1 H1' i1 s1 hr R1
      rw [hr.2] at R1
      by_cases hz : xs.length ≤ 1000000
      case neg => rw [Rs.bind_ok, if_neg hz] at p; exact p.elim
      rw [Rs.bind_ok, if_pos hz] at p
      intro L hL
      have xL : F.X L = none := i1.xs.no hL
      have yL : F.Y L = none := i1.ys.no hL
      have oL : F.H0 L = none := by
        cases z : F.H0 L with
        | none => rfl
        | some o => exact absurd hL (i1.al L (by rw [z]; intro z; cases z))
      refine ⟨fun k m H' => m = xs.length - k ∧ k ≤ xs.length ∧ ∃ G' e' av, ∃ ac : List β, IV F G' H' ∧ Sub G1 G' ∧ H' L = some (.lst av) ∧ G' L = none ∧ A2 (rb.rel M.K G') av ac ∧ ac.length ≤ k ∧ R.rel M.K F G' (hide H' L) (wipe σ vs) e' ∧
        Post M R F G σ (fs (Ws.oL rb)) Q ((lcR pt mt me kill (xs.drop k) e' ac).bind fun ys e2 => .ok ys (rst e1 e2)), ⟨xs.length, rfl, Nat.zero_le _, G1, kill e1, [], [], ?_, .refl, upd_same, i1.gh.no hL, .nil, Nat.le_refl _, ?_, p⟩, ?_⟩
      · exact i1.step (.own i1.gh hL)
      · rw [hide_upd, hide_none hL]
        exact w.kl R1
      rintro k m H' ⟨rfl, hk, G', e', av, ac, i', s', hl', gl', ha, hac, R', p'⟩
      have hw := hr.1 k G' H' i' s'
      by_cases hlt : k < xs.length
      · rw [List.drop_eq_getElem_cons hlt] at p'
        obtain ⟨h1, h2⟩ := hw.2 xs[k] (List.getElem?_eq_getElem hlt)
        refine .inr ⟨h1, fun H2 => k + 1 ≤ xs.length ∧ ∃ G' e' av, ∃ ac : List β, IV F G' H2 ∧ Sub G1 G' ∧ H2 L = some (.lst av) ∧ G' L = none ∧ A2 (rb.rel M.K G') av ac ∧ ac.length ≤ k + 1 ∧ R.rel M.K F G' (hide H2 L) (wipe σ vs) e' ∧
          Post M R F G σ (fs (Ws.oL rb)) Q ((lcR pt mt me kill (xs.drop (k + 1)) e' ac).bind fun ys e2 => .ok ys (rst e1 e2)), fun H2 hN => ⟨xs.length - (k + 1), by omega, rfl, hN⟩, fun v H'' hy => ?_⟩
        obtain ⟨G2, st, rv⟩ := h2 v H'' hy
        have i2 := i'.step st
        have hl2 := st.h _ _ hl'
        have gl2 : G2 L = none := by
          cases z : G2 L with
          | none => rfl
          | some o => exact absurd gl' (st.n L (by rw [hl']; intro z; cases z) (by rw [z]; intro z; cases z))
        have R2 : R.rel M.K F G2 (hide H'' L) (wipe σ vs) e' := R.mono st.g st.h.hide (fun b hb hn => st.n b (hide_sub.ne hb) hn) R'
        have i2l := i2.lock hl2 gl2
        have R2l := R.lock (o := .lst av) R2
        refine hg (F.lock L (.lst av)) G2 H'' _ _ v _ i2l R2l rv _ fun σ2 w2 R3 => ⟨?_, ?_⟩
        · rw [w2]
          exact wipe_wipe σ vs
        have w3 : wipe σ2 vs = wipe σ vs := by rw [w2]; exact wipe_wipe σ vs
        unfold lcR at p'
        refine ht (F.lock L (.lst av)) G2 H'' σ2 _ i2l R3 _ ?_
        revert p'
        cases mt (pt xs[k] e') with
        | bad => exact id
        | ex c e3 => exact fun p' => p'.elim
        | ok b e3 =>
          intro p' bv G3 H3 H3' i3 s3 r3 R4
          obtain rfl : bv = b := r3.1
          rw [r3.2] at R4
          obtain ⟨i3', hl3, gl3⟩ := i3.unlock xL
          cases bv with
          | false =>
            have R5 := w.kl (R.unlock R4)
            rw [w3] at R5
            exact ⟨hlt, G3, _, av, ac, i3', s'.trans (st.g.trans s3), hl3, gl3, ha.mono fun _ _ => rb.mono (st.g.trans s3), Nat.le_succ_of_le hac, R5, p'⟩
          | true =>
            rw [if_pos rfl]
            refine he (F.lock L (.lst av)) G3 H3 σ2 e3 i3 R4 _ ?_
            rw [Rs.bindN_ok, if_pos rfl] at p'
            revert p'
            cases me e3 with
            | bad => exact id
            | ex c e4 => exact fun p' => p'.elim
            | ok y e4 =>
              intro p' yv G4 H4 H4' i4 s4 r4 R5
              rw [r4.2] at R5
              obtain ⟨i4', hl4, gl4⟩ := i4.unlock xL
              have R6 := w.kl (R.unlock R5)
              rw [w3] at R6
              have sg := st.g.trans (s3.trans s4)
              refine ⟨av, hl4, by rw [ha.length, sizeLine_eq]; omega, hlt, G4, _, av ++ [yv], ac ++ [y], ?_, s'.trans sg, upd_same, gl4, (ha.mono fun _ _ => rb.mono sg).app (.cons r4.1 .nil), by rw [List.length_append, List.length_singleton]; omega, ?_, p'⟩
              · refine ⟨fun b o hb => ?_, i4'.g0, i4'.new, fun b o hb ho => ?_, fun b hb => ?_, fun b o hb => ?_, i4'.xg, fun b o hb => ?_, i4'.yg, i4'.tp.put (by intro _ h; cases h)⟩
                · rw [upd_ne (fun z => by rw [z, gl4] at hb; cases hb)]; exact i4'.gh b o hb
                · rw [upd_ne (fun z => by rw [z, oL] at ho; cases ho)]; exact i4'.fr b o hb ho
                · rw [upd_ne (fun z => hb (by rw [z, oL]))]; exact i4'.al b hb
                · rw [upd_ne (fun z => by rw [z, xL] at hb; cases hb)]; exact i4'.xs b o hb
                · rw [upd_ne (fun z => by rw [z, yL] at hb; cases hb)]; exact i4'.ys b o hb
              · rw [hide_upd]
                exact R6
      · have e0 : xs.drop k = [] := List.drop_eq_nil_of_le (by omega)
        rw [e0] at p'
        exact .inl ⟨hw.1 (by omega), p' (.ref L) G' H' (hide H' L) i' (s1.trans s') ⟨L, _, rfl, hl', gl', ⟨oL, xL, yL⟩, ⟨av, rfl, ha⟩, rfl⟩ (w.rs R1 s' R')⟩)
end
section
variable {ν ν' α β γ ε ρ ι : Type} {M : Mx} {R : ERep ε} {F : Frm} {G G1 H : Hp} {σ : Sg} {D : Ends}
def PostD (K : PySem.W.Frag) (cx : Str → Addr) (F : Frm) (rr : RS V ρ) (Q : VK) (E : XK) : Rs Unit ρ → Prop
  | .ok b _ => ∀ v G' H' H1, IV F G' H' → rr.rel K F G' H' v b H1 → Q v H'
  | .ex _ _ => False
  | .bad => False
/-- a def that changes nothing: f its mirror -/
def spD (K : PySem.W.Frag) (cx : Str → Addr) (ra : IR (List V) α) (rr : RS V ρ) (f : α → Rs Unit ρ) : Sp := fun vs H Q E => ∃ G a, (Sub G H ∧ Tps G H) ∧ ra K G H vs a ∧ PostD K cx ⟨G, H, [], fun _ => none, fun _ => none⟩ rr Q E (f a)
def PostI (K : PySem.W.Frag) (cx : Str → Addr) (F : Frm) (p : Addr) (q : ORep ι) (rr : RS V ρ) (Q : VK) (E : XK) : Rs ι ρ → Prop
  | .ok b st => ∀ v G' H' H1 ho, IV F G' H' → rr.rel K F G' H' v b H1 → H1 p = some ho → G' p = none → q.rel K G' ho st → Q v H'
  | .ex _ _ => False
  | .bad => False
/-- a def that changes its first argument -/
def spI (K : PySem.W.Frag) (cx : Str → Addr) (q : ORep ι) (ra : IR (List V) α) (rr : RS V ρ) (f : ι → α → Rs ι ρ) : Sp := fun vs H Q E => ∃ G p ws ho st a, vs = .ref p :: ws ∧ H p = some ho ∧ G p = none ∧ q.rel K G ho st ∧ (Sub G H ∧ Tps G H) ∧ ra K G (hide H p) ws a ∧ PostI K cx ⟨G, H, [p], fun _ => none, fun _ => none⟩ p q rr Q E (f st a)
def Rs.run {ι : Type} (x : Rs Unit ρ) (e : ι) : Rs ι ρ := match x with
  | .ok b _ => .ok b e | .ex _ _ => .bad | .bad => .bad
@[simp] theorem Rs.run_ok {ι : Type} {b : ρ} {u : Unit} {e : ι} : (Rs.ok b u : Rs Unit ρ).run e = .ok b e := rfl
@[simp] theorem Rs.run_bad {ι : Type} {e : ι} : (Rs.bad : Rs Unit ρ).run e = .bad := rfl
def mCall (f : α → Rs Unit ρ) (m : ε → Rs ε α) : ε → Rs ε ρ := fun e => (m e).bind fun a e1 => (f a).run e1
theorem IV.start {G H : Hp} {ws : List Addr} (st : Sub G H ∧ Tps G H) : IV ⟨G, H, ws, fun _ => none, fun _ => none⟩ G H := ⟨st.1, .refl, fun _ _ h => h, fun _ _ _ h => h, fun _ h => h, fun _ _ h => (nomatch h), fun _ h => absurd rfl h, fun _ _ h => (nomatch h), fun _ h => absurd rfl h, st.2⟩
/-- behind a call that changes ws, objects of one's own -/
theorem IV.after {F : Frm} {G H G' H' : Hp} {ws : List Addr} (i : IV F G H) (j : IV ⟨G, H, ws, fun _ => none, fun _ => none⟩ G' H') (hw : ∀ p ∈ ws, (F.H0 p = none ∨ p ∈ F.ws) ∧ F.X p = none ∧ F.Y p = none ∧ G' p = none) : IV F G' H' := by
  refine ⟨j.gh, i.g0.trans j.g0, fun b h1 h2 => i.new b h1 (j.new b (i.al b h1) h2), fun b o h1 h2 => j.fr b o (fun z => ?_) (i.fr b o h1 h2), fun b h => j.al b (i.al b h), fun b o h => j.fr b o (fun z => ?_) (i.xs b o h), fun b h => ?_, fun b o h => j.fr b o (fun z => ?_) (i.ys b o h), fun b h => ?_, j.tp⟩
  · rcases (hw b z).1 with h | h
    · rw [h] at h2; cases h2
    · exact h1 h
  · rw [(hw b z).2.1] at h; cases h
  · cases z : G' b with
    | none => rfl
    | some o => exact absurd (i.xg b h) (j.new b (i.xs.ne h) (by rw [z]; intro z; cases z))
  · rw [(hw b z).2.2.1] at h; cases h
  · cases z : G' b with
    | none => rfl
    | some o => exact absurd (i.yg b h) (j.new b (i.ys.ne h) (by rw [z]; intro z; cases z))
theorem R_after {G H G' H' : Hp} {e : ε} (j : IV ⟨G, H, [], fun _ => none, fun _ => none⟩ G' H') (hR : R.rel M.K F G H σ e) : R.rel M.K F G' H' σ e := R.mono j.g0 (fun b o h => j.fr b o List.not_mem_nil h) (fun b h1 h2 => j.new b h1 h2) hR
theorem x_call {t : TA} {ra : IR (List V) α} {r : Rep ρ} {f : α → Rs Unit ρ} {m : ε → Rs ε α} (h : EX M R t (is ra) m) : EX M R (tCall (spD M.K M.cx ra (fz r) f) [] M.E t) (fz r) (mCall f m) := fun F G H σ e i hR Q p =>
  h F G H σ e i hR _ (p.bind is_h fun vs a e1 G1 H1 i1 s1 R1 r1 p1 => by
    rw [List.append_nil]
    refine ⟨G1, a, ⟨i1.gh, i1.tp⟩, r1.1, ?_⟩
    revert p1
    cases f a with
    | ok b u => exact fun p1 v G' H' Hx j hr => p1 v G' H' H' (i1.after j fun _ z => absurd z List.not_mem_nil) j.g0 ⟨hr.1, rfl⟩ (R_after j R1)
    | ex c u => exact id
    | bad => exact id)
theorem own_after {F : Frm} {G H : Hp} {L : Addr} (i : IV F G H) (h : H L = none) : ownN F L := ⟨by
  cases z : F.H0 L with
  | none => rfl
  | some o => exact absurd h (i.al L (by rw [z]; intro z; cases z)), i.xs.no h, i.ys.no h⟩
theorem x_callF {t : TA} {ra : IR (List V) α} {q : ORep ρ} {f : α → Rs Unit ρ} {m : ε → Rs ε α} (h : EX M R t (is ra) m) : EX M R (tCall (spD M.K M.cx ra (fs q) f) [] M.E t) (fs q) (mCall f m) := fun F G H σ e i hR Q p =>
  h F G H σ e i hR _ (p.bind is_h fun vs a e1 G1 H1 i1 s1 R1 r1 p1 => by
    rw [List.append_nil]
    refine ⟨G1, a, ⟨i1.gh, i1.tp⟩, r1.1, ?_⟩
    revert p1
    cases f a with
    | ok b u =>
      rintro p1 v G' H' Hx j ⟨L, ho, rfl, h1, h2, h3, h4, rfl⟩
      refine p1 (.ref L) G' H' (hide H' L) (i1.after j fun _ z => absurd z List.not_mem_nil) j.g0 ⟨L, ho, rfl, h1, h2, own_after i1 h3.1, h4, rfl⟩ (R.mono j.g0 (sub_hide (fun b o h => j.fr b o List.not_mem_nil h) h3.1) (fun b h1 h2 => j.new b h1 h2) R1)
    | ex c u => exact id
    | bad => exact id)
/-- a call that changes the object of a name -/
def mCallI (l : Ln ε ι) (f : ι → α → Rs ι ρ) (m : ε → Rs ε α) : ε → Rs ε ρ := fun e => match l.get e with
  | none => .bad
  | some _ => (m e).bind fun a e1 => match l.get e1 with
    | none => .bad
    | some st => match f st a with
      | .ok b st' => .ok b (l.put (some st') (l.put none e1)) | .ex _ _ => .bad | .bad => .bad
def OwnQ (own : Frm → Addr → Prop) : Prop := ∀ F L, own F L → (F.H0 L = none ∨ L ∈ F.ws) ∧ F.X L = none ∧ F.Y L = none
theorem ownN_q : OwnQ ownN := fun _ _ h => ⟨.inl h.1, h.2⟩
theorem ownI_q {k : Nat} : OwnQ (ownI k) := fun _ _ h => ⟨.inr (List.mem_of_getElem? h.1), h.2⟩
/-- arguments beside an object that is changed: read without it -/
def apt (ra : IR (List V) α) : RS (List V) α := ⟨fun K F G H vs a H1 => (∀ L, (F.H0 L = none ∨ L ∈ F.ws) → G L = none → ra K G (hide H L) vs a) ∧ H1 = H⟩
theorem apt_h {r : IR (List V) α} : ∀ K F G H v a H1, (apt r).rel K F G H v a H1 → H1 = H := fun _ _ _ _ _ _ _ z => z.2
theorem x_pnil : EX M R tNil (apt aNil) (mC ()) := fun F G H σ e i hR Q p => p [] G H H i .refl ⟨fun _ _ _ => rfl, rfl⟩ hR
theorem x_pone {t : TE} {r : Rep α} {i' : IR V α} {m : ε → Rs ε α} (cv : Cv r i') (h : EX M R t (fz r) m) : EX M R (tCons t tNil) (apt (aOne i')) m := fun F G H σ e i hR Q p => by
  refine h F G H σ e i hR _ ?_
  revert p
  cases m e with
  | ok a e' => exact fun p v G' H' H1 i1 s1 z R1 => p [v] G' H' H1 i1 s1 ⟨fun L _ hg => ⟨v, rfl, cv _ _ _ _ _ (sub_hide i1.gh hg) z.1⟩, z.2⟩ R1
  | ex c e' => exact id
  | bad => exact id
theorem x_pcons {t : TE} {tr : TA} {r : Rep α} {j : IR V α} {k : IR (List V) β} {m : ε → Rs ε α} {n : ε → Rs ε β} (cv : Cv r j) (h : EX M R t (fz r) m) (h' : EX M R tr (apt k) n) : EX M R (tCons t tr) (apt (aCons j k)) (mPair m n) := fun F G H σ e i hR Q p =>
  h F G H σ e i hR _ (p.bind fz_h fun v a e1 G1 H1 i1 s1 R1 r1 p1 => h' F G1 H1 σ e1 i1 R1 _ (p1.bind apt_h fun ws b e2 G2 H2 i2 s2 R2 r2 p2 =>
    p2 (v :: ws) G2 H2 H2 i2 .refl ⟨fun L hw hg => ⟨v, ws, rfl, cv _ _ _ _ _ (sub_hide i2.gh hg) (r.mono s2 r1.1), r2.1 L hw hg⟩, rfl⟩ R2))
theorem x_callI {n : Nat} {own : Frm → Addr → Prop} {l : Ln ε ι} {q : ORep ι} {t : TA} {ri : IR (List V) α} {r : Rep ρ} {f : ι → α → Rs ι ρ} {m : ε → Rs ε α} (at' : OwAt R n own q l) (ho : OwnQ own)
    (h : EX M R t (apt ri) m) : EX M R (tCall (spI M.K M.cx q ri (fz r) f) [] M.E (tCons (tVar n) t)) (fz r) (mCallI l f m) := fun F G H σ e i hR Q p => by
  unfold mCallI at p
  cases h0 : l.get e with
  | none => rw [h0] at p; exact p.elim
  | some st0 =>
    rw [h0] at p
    obtain ⟨L0, ho0, h1, _⟩ := at'.rd hR h0
    refine ⟨_, h1, h F G H σ e i hR _ (p.bind apt_h fun ws a e1 G1 H1 i1 s1 R1 r1 p1 => ?_)⟩
    show spI M.K M.cx q ri (fz r) f ((V.ref L0 :: ws) ++ []) H1 Q M.E
    rw [List.append_nil]
    cases h2 : l.get e1 with
    | none => rw [h2] at p1; exact p1.elim
    | some st =>
      rw [h2] at p1
      obtain ⟨L, hob, h3, h4, h5, h6, h7, h8⟩ := at'.rd R1 h2
      rw [h1] at h3
      cases h3
      have hp : ∀ {G' : Hp}, G' L0 = none → ∀ p ∈ [L0], (F.H0 p = none ∨ p ∈ F.ws) ∧ F.X p = none ∧ F.Y p = none ∧ G' p = none := fun hg p hp => by
        obtain rfl := List.mem_singleton.mp hp
        exact ⟨(ho _ _ h6).1, (ho _ _ h6).2.1, (ho _ _ h6).2.2, hg⟩
      have back : ∀ {G' H' : Hp} {ho' : HO} {st' : ι}, IV ⟨G1, H1, [L0], fun _ => none, fun _ => none⟩ G' H' → H' L0 = some ho' → G' L0 = none → q.rel M.K G' ho' st' → R.rel M.K F G' H' σ (l.put (some st') (l.put none e1)) := fun {G' H' ho' st'} j e2 e3 e4 =>
        at'.bk (R.mono j.g0 (fun b o hb => by
          obtain ⟨nb, hb⟩ := hide_some hb
          rw [hide_ne nb]
          exact j.fr b o (by simpa using nb) hb) (fun b hb hn => j.new b (hide_sub.ne hb) hn) h8) h1 e2 e3 h6 e4
      refine ⟨G1, L0, ws, hob, st, a, rfl, h4, h5, h7, ⟨i1.gh, i1.tp⟩, r1.1 _ (ho _ _ h6).1 h5, ?_⟩
      revert p1
      dsimp only
      cases f st a with
      | ok b st' =>
        rintro p1 v G' H' Hx ho' j ⟨hr, rfl⟩ e2 e3 e4
        exact p1 v G' _ _ (i1.after j (hp e3)) j.g0 ⟨hr, rfl⟩ (back j e2 e3 e4)
      | ex c st' => exact id
      | bad => exact id
theorem x_callIF {n : Nat} {own : Frm → Addr → Prop} {l : Ln ε ι} {q : ORep ι} {t : TA} {ri : IR (List V) α} {qr : ORep ρ} {f : ι → α → Rs ι ρ} {m : ε → Rs ε α} (at' : OwAt R n own q l) (ho : OwnQ own)
    (h : EX M R t (apt ri) m) : EX M R (tCall (spI M.K M.cx q ri (fs qr) f) [] M.E (tCons (tVar n) t)) (fs qr) (mCallI l f m) := fun F G H σ e i hR Q p => by
  unfold mCallI at p
  cases h0 : l.get e with
  | none => rw [h0] at p; exact p.elim
  | some st0 =>
    rw [h0] at p
    obtain ⟨L0, ho0, h1, _⟩ := at'.rd hR h0
    refine ⟨_, h1, h F G H σ e i hR _ (p.bind apt_h fun ws a e1 G1 H1 i1 s1 R1 r1 p1 => ?_)⟩
    show spI M.K M.cx q ri (fs qr) f ((V.ref L0 :: ws) ++ []) H1 Q M.E
    rw [List.append_nil]
    cases h2 : l.get e1 with
    | none => rw [h2] at p1; exact p1.elim
    | some st =>
      rw [h2] at p1
      obtain ⟨L, hob, h3, h4, h5, h6, h7, h8⟩ := at'.rd R1 h2
      rw [h1] at h3
      cases h3
      have hp : ∀ {G' : Hp}, G' L0 = none → ∀ p ∈ [L0], (F.H0 p = none ∨ p ∈ F.ws) ∧ F.X p = none ∧ F.Y p = none ∧ G' p = none := fun hg p hp => by
        obtain rfl := List.mem_singleton.mp hp
        exact ⟨(ho _ _ h6).1, (ho _ _ h6).2.1, (ho _ _ h6).2.2, hg⟩
      have back : ∀ {G' H' : Hp} {ho' : HO} {st' : ι}, IV ⟨G1, H1, [L0], fun _ => none, fun _ => none⟩ G' H' → H' L0 = some ho' → G' L0 = none → q.rel M.K G' ho' st' → R.rel M.K F G' H' σ (l.put (some st') (l.put none e1)) := fun {G' H' ho' st'} j e2 e3 e4 =>
        at'.bk (R.mono j.g0 (fun b o hb => by
          obtain ⟨nb, hb⟩ := hide_some hb
          rw [hide_ne nb]
          exact j.fr b o (by simpa using nb) hb) (fun b hb hn => j.new b (hide_sub.ne hb) hn) h8) h1 e2 e3 h6 e4
      refine ⟨G1, L0, ws, hob, st, a, rfl, h4, h5, h7, ⟨i1.gh, i1.tp⟩, r1.1 _ (ho _ _ h6).1 h5, ?_⟩
      revert p1
      dsimp only
      cases f st a with
      | ok b st' =>
        rintro p1 v G' H' Hx ho' j ⟨L', ho2, rfl, g1, g2, g3, g4, rfl⟩ e2 e3 e4
        obtain ⟨ne, e2⟩ := hide_some e2
        refine p1 (.ref L') G' H' (hide H' L') (i1.after j (hp e3)) j.g0 ⟨L', ho2, rfl, g1, g2, own_after i1 g3.1, g4, rfl⟩ (at'.bk (R.mono j.g0 (fun b o hb => ?_) (fun b hb hn => j.new b (hide_sub.ne hb) hn) h8) h1 (by rw [hide_ne ne]; exact e2) e3 h6 e4)
        obtain ⟨nb, hb⟩ := hide_some hb
        rw [hide_ne nb, hide_ne (ne_of_none hb g3.1)]
        exact j.fr b o (by simpa using nb) hb
      | ex c st' => exact id
      | bad => exact id
def gNilA : GR (List V) Unit := ⟨fun _ _ vs _ => vs = [], fun _ h => h⟩
def gOne (r : Rep α) : GR (List V) α := ⟨fun K G vs a => ∃ v, vs = [v] ∧ r.rel K G v a, fun s ⟨v, h1, h2⟩ => ⟨v, h1, r.mono s h2⟩⟩
def gConsA (r : Rep α) (ra : GR (List V) β) : GR (List V) (α × β) := ⟨fun K G vs p => ∃ v ws, vs = v :: ws ∧ r.rel K G v p.1 ∧ ra.rel K G ws p.2, fun s ⟨v, ws, h1, h2, h3⟩ => ⟨v, ws, h1, r.mono s h2, ra.mono s h3⟩⟩
theorem Cv.nil : Cv gNilA aNil := fun _ _ _ _ _ _ h => h
theorem Cv.cons {r : Rep α} {i : IR V α} {ra : GR (List V) β} {ri : IR (List V) β} (c : Cv r i) (d : Cv ra ri) : Cv (gConsA r ra) (aCons i ri) := fun K G H vs a s ⟨v, ws, h1, h2, h3⟩ => ⟨v, ws, h1, c _ _ _ _ _ s h2, d _ _ _ _ _ s h3⟩
theorem x_gone {t : TE} {r : Rep α} {m : ε → Rs ε α} (h : EX M R t (fz r) m) : EX M R (tCons t tNil) (fz (gOne r)) m := fun F G H σ e i hR Q p => by
  refine h F G H σ e i hR _ ?_
  revert p
  cases m e with
  | ok a e' => exact fun p v G' H' H1 i1 s1 z R1 => p [v] G' H' H1 i1 s1 ⟨⟨v, rfl, z.1⟩, z.2⟩ R1
  | ex c e' => exact id
  | bad => exact id
theorem x_gcons {t : TE} {tr : TA} {r : Rep α} {ra : GR (List V) β} {m : ε → Rs ε α} {n : ε → Rs ε β} (h : EX M R t (fz r) m) (h' : EX M R tr (fz ra) n) : EX M R (tCons t tr) (fz (gConsA r ra)) (mPair m n) := fun F G H σ e i hR Q p =>
  h F G H σ e i hR _ (p.bind fz_h fun v a e1 G1 H1 i1 s1 R1 r1 p1 => h' F G1 H1 σ e1 i1 R1 _ (p1.bind fz_h fun ws b e2 G2 H2 i2 s2 R2 r2 p2 =>
    p2 (v :: ws) G2 H2 H2 i2 .refl ⟨⟨v, ws, rfl, r.mono s2 r1.1, r2.1⟩, rfl⟩ R2))
def So.run (dn : Option ρ) : So ε ρ → Rs Unit ρ
  | .rt a _ => .ok a () | .nx _ => .of dn () | .ex c _ => .ex c () | _ => .bad
def So.runI (l : Ln ε ι) (dn : Option ρ) : So ε ρ → Rs ι ρ
  | .rt a e => match l.get e with
    | some st => .ok a st
    | none => .bad
  | .nx e => match l.get e with
    | some st => .of dn st
    | none => .bad
  | .ex c e => match l.get e with
    | some st => .ex c st
    | none => .bad
  | _ => .bad
theorem d_D {K : PySem.W.Frag} {cx : Str → Addr} {E : XK} {N : List Str} {vs : List V} {Q : VK} {rr : RS V ρ} {t : TS} {mb : ε → So ε ρ} {ra : IR (List V) α} {e0 : α → ε} {dn : Option ρ} {E' : XK} (hs : SX ⟨K, E', cx⟩ R rr t mb)
    (h0 : ∀ G H vs a, Sub G H → ra K G H vs a → R.rel K ⟨G, H, [], fun _ => none, fun _ => none⟩ G H (start N vs) (e0 a)) (hd : ∀ b, dn = some b → ∀ F G H, rr.rel K F G H .non b H) (h : spD K cx ra rr (fun a => (mb (e0 a)).run dn) vs H Q E) :
    t { nx := fun _ H' => Q .non H', rt := Q } (start N vs) H := by
  obtain ⟨G, a, s, hr, p⟩ := h
  have p : PostD K cx ⟨G, H, [], fun _ => none, fun _ => none⟩ rr Q E ((mb (e0 a)).run dn) := p
  refine hs ⟨G, H, [], fun _ => none, fun _ => none⟩ G H _ (e0 a) (.start s) (h0 G H vs a s.1 hr) _ ?_
  cases z : mb (e0 a) with
  | rt b e =>
    rw [z] at p
    exact fun v σ' G' H' H1 i _ hv _ => p v G' H' H1 i hv
  | nx e =>
    rw [z] at p
    cases dn with
    | none => exact False.elim p
    | some b => exact fun σ' G' H' i _ _ => p .non G' H' H' i (hd b rfl _ _ _)
  | ex c e => rw [z] at p; exact False.elim p
  | bk e => rw [z] at p; exact False.elim p
  | ct e => rw [z] at p; exact False.elim p
  | bad => rw [z] at p; exact False.elim p
theorem d_I {K : PySem.W.Frag} {cx : Str → Addr} {E : XK} {N : List Str} {vs : List V} {Q : VK} {rr : RS V ρ} {t : TS} {mb : ε → So ε ρ} {q : ORep ι} {l : Ln ε ι} {ra : IR (List V) α} {e0 : ι → α → ε} {dn : Option ρ} {E' : XK} (hs : SX ⟨K, E', cx⟩ R rr t mb) (at' : OwAt R 0 (ownI 0) q l)
    (h0 : ∀ G H p ho st ws a, H p = some ho → G p = none → q.rel K G ho st → Sub G H → ra K G (hide H p) ws a → R.rel K ⟨G, H, [p], fun _ => none, fun _ => none⟩ G H (start N (.ref p :: ws)) (e0 st a)) (hd : ∀ b, dn = some b → ∀ F G H, rr.rel K F G H .non b H)
    (h : spI K cx q ra rr (fun st a => (mb (e0 st a)).runI l dn) vs H Q E) : t { nx := fun _ H' => Q .non H', rt := Q } (start N vs) H := by
  obtain ⟨G, p, ws, ho, st, a, rfl, h1, h2, h3, s, hr, pp⟩ := h
  refine hs ⟨G, H, [p], fun _ => none, fun _ => none⟩ G H _ (e0 st a) (.start s) (h0 G H p ho st ws a h1 h2 h3 s.1 hr) _ ?_
  have look : ∀ {G' H' : Hp} {σ' : Sg} {e : ε} {x : ι}, R.rel K ⟨G, H, [p], fun _ => none, fun _ => none⟩ G' H' σ' e → l.get e = some x → ∃ ho', H' p = some ho' ∧ G' p = none ∧ q.rel K G' ho' x := fun hR hx => by
    obtain ⟨L, ho', _, b2, b3, b4, b5, _⟩ := at'.rd hR hx
    have : p = L := by simpa [ownI] using b4.1
    subst this
    exact ⟨ho', b2, b3, b5⟩
  have pp : PostI K cx ⟨G, H, [p], fun _ => none, fun _ => none⟩ p q rr Q E ((mb (e0 st a)).runI l dn) := pp
  cases z0 : mb (e0 st a) with
  | rt b e =>
    rw [z0] at pp
    unfold So.runI at pp
    cases z : l.get e with
    | none => simp only [z] at pp; exact False.elim pp
    | some x =>
      simp only [z] at pp
      exact fun v σ' G' H' H1 i _ hv hR => let ⟨ho', b1, b2, b3⟩ := look hR z; pp v G' H' H1 ho' i hv b1 b2 b3
  | nx e =>
    rw [z0] at pp
    unfold So.runI at pp
    cases z : l.get e with
    | none => simp only [z] at pp; exact False.elim pp
    | some x =>
      simp only [z] at pp
      cases dn with
      | none => exact False.elim pp
      | some b => exact fun σ' G' H' i _ hR => let ⟨ho', b1, b2, b3⟩ := look hR z; pp .non G' H' H' ho' i (hd b rfl _ _ _) b1 b2 b3
  | ex c e =>
    rw [z0] at pp
    unfold So.runI at pp
    cases z : l.get e with
    | none => simp only [z] at pp; exact False.elim pp
    | some x => simp only [z] at pp; exact False.elim pp
  | bk e => rw [z0] at pp; exact False.elim pp
  | ct e => rw [z0] at pp; exact False.elim pp
  | bad => rw [z0] at pp; exact False.elim pp
theorem e_nil {K : PySem.W.Frag} : eNil.rel K F G H [] () := rfl
theorem e_fr {K : PySem.W.Frag} {r : Rep α} {v : V} {a : α} {e : ε} (h : r.rel K G v a) (t : R.rel K F G H σ e) : (eFr r R).rel K F G H (some v :: σ) (some a, e) := ⟨_, _, rfl, fun x hx => ⟨v, rfl, by cases hx; exact h⟩, t⟩
theorem e_frN {K : PySem.W.Frag} {r : Rep α} {o : Option V} {e : ε} (t : R.rel K F G H σ e) : (eFr r R).rel K F G H (o :: σ) (none, e) := ⟨_, _, rfl, fun x hx => (nomatch hx), t⟩
theorem e_owN {K : PySem.W.Frag} {own : Frm → Addr → Prop} [op : OwnP own] {q : ORep α} {o : Option V} {e : ε} (t : R.rel K F G H σ e) : (eOwP own q R).rel K F G H (o :: σ) (none, e) := ⟨_, _, rfl, .inl ⟨rfl, t⟩⟩
theorem e_bo {K : PySem.W.Frag} {q : ORep α} {v : V} {a : α} {e : ε} {H0 : Hp} (h : rd q K G H0 v a) (hs : ∀ b o, H0 b = some o → F.H0 b = some o ∧ b ∉ F.ws) (t : R.rel K F G H σ e) : (eBo q R).rel K F G H (some v :: σ) (some a, e) :=
  ⟨_, _, rfl, fun x hx => by
    cases hx
    obtain ⟨L, ho, rfl, h1, h2⟩ := h
    exact ⟨L, ho, rfl, (hs _ _ h1).1, (hs _ _ h1).2, h2⟩, t⟩
theorem e_io {K : PySem.W.Frag} {q : ORep α} {p : Addr} {ho : HO} {a : α} {e : ε} (h1 : H p = some ho) (h2 : G p = none) (h3 : q.rel K G ho a) (hF : F.ws[0]? = some p) (hX : F.X p = none ∧ F.Y p = none) (t : R.rel K F G (hide H p) σ e) : (eIo 0 q R).rel K F G H (some (.ref p) :: σ) (some a, e) :=
  ⟨_, _, rfl, .inr ⟨a, p, ho, rfl, rfl, h1, h2, ⟨hF, hX⟩, h3, t⟩⟩
theorem bo_D {G H : Hp} : ∀ b o, H b = some o → (Frm.mk G H [] (fun _ => none) fun _ => none).H0 b = some o ∧ b ∉ (Frm.mk G H [] (fun _ => none) fun _ => none).ws := fun b o h => ⟨h, List.not_mem_nil⟩
theorem bo_I {G H : Hp} {p : Addr} : ∀ b o, hide H p b = some o → (Frm.mk G H [p] (fun _ => none) fun _ => none).H0 b = some o ∧ b ∉ (Frm.mk G H [p] (fun _ => none) fun _ => none).ws := fun b o h => ⟨(hide_some h).2, by simpa using (hide_some h).1⟩
def ALen (ra : IR (List V) α) (n : Nat) : Prop := ∀ K G H vs a, ra K G H vs a → vs.length = n
theorem ALen.nil : ALen aNil 0 := fun _ _ _ _ _ h => by rw [show _ = [] from h]; rfl
theorem ALen.one {i : IR V α} : ALen (aOne i) 1 := fun _ _ _ _ _ ⟨v, h, _⟩ => by rw [h]; rfl
theorem ALen.cons {i : IR V α} {ra : IR (List V) β} {n : Nat} (h : ALen ra n) : ALen (aCons i ra) (n + 1) := fun _ _ _ _ _ ⟨v, ws, e, _, h2⟩ => by rw [e, List.length_cons, h _ _ _ _ _ h2]
theorem len_D {K : PySem.W.Frag} {cx : Str → Addr} {ra : IR (List V) α} {rr : RS V ρ} {f : α → Rs Unit ρ} {n : Nat} (h : ALen ra n) : ∀ vs H Q E, spD K cx ra rr f vs H Q E → vs.length = n := fun vs H Q E ⟨G, a, _, hr, _⟩ => h _ _ _ _ _ hr
theorem len_I {K : PySem.W.Frag} {cx : Str → Addr} {q : ORep ι} {ra : IR (List V) α} {rr : RS V ρ} {f : ι → α → Rs ι ρ} {n : Nat} (h : ALen ra n) : ∀ vs H Q E, spI K cx q ra rr f vs H Q E → vs.length = n + 1 := fun vs H Q E ⟨G, p, ws, ho, st, a, e, _, _, _, _, hr, _⟩ => by rw [e, List.length_cons, h _ _ _ _ _ hr]
end
section
variable {K : PySem.W.Frag} {α β γ ε ρ : Type} {w : World} {P : Program}
def gAdd (i j : Int) : Option Int := some (i + j)
def gSubI (i j : Int) : Option Int := some (i - j)
def gMul (i j : Int) : Option Int := if (-18446744073709551616 < i ∧ i < 18446744073709551616) ∨ (-18446744073709551616 < j ∧ j < 18446744073709551616) then some (i * j) else none
def gDiv (i j : Int) : Option Int := if 0 < j ∧ j < 1073741824 then some (i / j) else none
def gMod (i j : Int) : Option Int := if 0 < j then some (i % j) else none
def gPow (i j : Int) : Option Int := if 0 ≤ j ∧ j ≤ 1000000 ∧ (-18446744073709551616 < i ∧ i < 18446744073709551616) then some (i ^ j.toNat) else none
def gShl (i j : Int) : Option Int := if 0 ≤ j ∧ j ≤ 1000000 ∧ (-18446744073709551616 < i ∧ i < 18446744073709551616) then some (i * 2 ^ j.toNat) else none
def gShr (i j : Int) : Option Int := if 0 ≤ j then some (i / 2 ^ j.toNat) else none
def gAnd (i j : Int) : Option Int := some (Builtin.bitAnd i j)
def gOr (i j : Int) : Option Int := some (Builtin.bitOr i j)
def gXor (i j : Int) : Option Int := some (Builtin.bitXor i j)
def gLt (i j : Int) : Option Bool := some (decide (i < j))
def gLe (i j : Int) : Option Bool := some (decide (i ≤ j))
def gGt (i j : Int) : Option Bool := some (decide (j < i))
def gGe (i j : Int) : Option Bool := some (decide (j ≤ i))
def gEq [DecidableEq α] (a b : α) : Option Bool := some (decide (a = b))
def gNe [DecidableEq α] (a b : α) : Option Bool := some (!decide (a = b))
def gNeg (i : Int) : Option Int := some (-i)
theorem v_I0 {g : Int → Int → V} {f : Int → Int → γ} {r' : Rep γ} (h : ∀ K G i j, r'.rel K G (g i j) (f i j)) : VR2 K (rI0 g) (ir rI) (ir rI) r' (fun i j => some (f i j)) := fun G H v w a b c Q s h1 h2 hg k => by
  cases hg
  exact ⟨a, b, h1, h2, k _ G H (.refl s) (h _ _ _ _)⟩
theorem v_add : VR2 K rAdd (ir rI) (ir rI) rI gAdd := v_I0 fun _ _ _ _ => rfl
theorem v_sub : VR2 K rSub (ir rI) (ir rI) rI gSubI := v_I0 fun _ _ _ _ => rfl
theorem v_lt : VR2 K rLt (ir rI) (ir rI) rB gLt := v_I0 fun _ _ _ _ => rfl
theorem v_le : VR2 K rLe (ir rI) (ir rI) rB gLe := v_I0 fun _ _ _ _ => rfl
theorem v_gt : VR2 K rGt (ir rI) (ir rI) rB gGt := v_I0 fun _ _ _ _ => rfl
theorem v_ge : VR2 K rGe (ir rI) (ir rI) rB gGe := v_I0 fun _ _ _ _ => rfl
theorem v_IC {C C' : Int → Int → Prop} [∀ i j, Decidable (C' i j)] {f : Int → Int → Int} (hC : ∀ i j, C' i j → C i j) : VR2 K (L2.rI C fun i j => .int (f i j)) (ir rI) (ir rI) rI (fun i j => if C' i j then some (f i j) else none) := fun G H v w a b c Q s h1 h2 hg k => by
  dsimp only at hg
  split at hg
  · next hc => cases hg; exact ⟨a, b, h1, h2, hC _ _ hc, k _ G H (.refl s) rfl⟩
  · cases hg
theorem v_mul : VR2 K rMul (ir rI) (ir rI) rI gMul := v_IC (C := CMul) fun i j h => by unfold CMul; omega
theorem v_div : VR2 K rDiv (ir rI) (ir rI) rI gDiv := v_IC fun i j h => h
theorem v_mod : VR2 K rMod (ir rI) (ir rI) rI gMod := v_IC fun i j h => h
theorem v_pow : VR2 K rPow (ir rI) (ir rI) rI gPow := v_IC (C := CPow) fun i j h => by unfold CPow; omega
theorem v_eqI : VR2 K rEq (ir rI) (ir rI) rB gEq := fun G H v w a b c Q s h1 h2 hg k => by
  cases hg; cases h1; cases h2
  exact ⟨rfl, by rw [show decide (V.int a = V.int b) = decide (a = b) by simp]; exact k _ G H (.refl s) rfl⟩
theorem v_neI : VR2 K rNe (ir rI) (ir rI) rB gNe := fun G H v w a b c Q s h1 h2 hg k => by
  cases hg; cases h1; cases h2
  exact ⟨rfl, by rw [show decide (V.int a = V.int b) = decide (a = b) by simp]; exact k _ G H (.refl s) rfl⟩
theorem v_neS : VR2 K rNe (ir rS) (ir rS) rB gNe := fun G H v w a b c Q s h1 h2 hg k => by
  cases hg; cases h1; cases h2
  exact ⟨rfl, by rw [show decide (V.str a = V.str b) = decide (a = b) by simp]; exact k _ G H (.refl s) rfl⟩
theorem v_neg : VR K (rU fun i => .int (-i)) (ir rI) rI gNeg := fun G H v a b Q s h1 hg k => by
  cases hg; cases h1
  exact ⟨a, rfl, k _ G H (.refl s) rfl⟩
/-- x is None -/
def gIsN (a : Option α) (_ : Unit) : Option Bool := some a.isNone
def gNotN (a : Option α) (_ : Unit) : Option Bool := some a.isSome
theorem v_isN {r : Rep α} : VR2 K rIsN (ir (rO r)) (ir rN) rB gIsN := fun G H v w a b c Q s h1 h2 hg k => by
  cases hg
  refine ⟨h2, k _ G H (.refl s) ?_⟩
  cases a with
  | none => rw [show v = .non from h1]; rfl
  | some x => rw [decide_eq_false h1.1]; rfl
theorem v_notN {r : Rep α} : VR2 K rNotN (ir (rO r)) (ir rN) rB gNotN := fun G H v w a b c Q s h1 h2 hg k => by
  cases hg
  refine ⟨h2, k _ G H (.refl s) ?_⟩
  cases a with
  | none => rw [show v = .non from h1]; rfl
  | some x => rw [decide_eq_false h1.1]; rfl
theorem sql_h {H : Hp} {L : Addr} {vs : List V} (h : H L = some (.lst vs)) : SqL K H L vs := .inl (.inl h)
theorem sqt_h {H : Hp} {L : Addr} {vs : List V} (h : H L = some (.tup vs)) : SqT K H L vs := .inl (.inl h)
def gLen (xs : List α) : Option Int := some (xs.length : Int)
theorem v_lenL {r : Rep α} : VR K (rLenL K) (aOne (rd (oL r))) rI gLen := fun G H v a b Q s ⟨x, h0, L, ho, h1, h2, vs, h3, h4⟩ hg k => by
  cases hg; subst h0 h1 h3
  exact ⟨L, vs, rfl, .inl (sql_h h2), k _ G H (.refl s) (by rw [h4.length]; rfl)⟩
theorem v_lenT {r : Rep α} : VR K (rLenL K) (aOne (rd (oT r))) rI gLen := fun G H v a b Q s ⟨x, h0, L, ho, h1, h2, vs, h3, h4⟩ hg k => by
  cases hg; subst h0 h1 h3
  exact ⟨L, vs, rfl, .inr (sqt_h h2), k _ G H (.refl s) (by rw [h4.length]; rfl)⟩
theorem v_lenS : VR K (rLenL K) (aOne (ir rScr)) rI gLen := fun G H v a b Q s ⟨x, h0, L, h1, h2⟩ hg k => by
  cases hg; subst h0 h1
  obtain ⟨L', e, hf⟩ := rScr.mono s ⟨L, rfl, h2⟩
  cases e
  exact ⟨L, _, rfl, .inl hf.sql, k _ G H (.refl s) (by rw [List.length_map]; rfl)⟩
/-- an item -/
def gIx (xs : List α) (i : Int) : Option α := atI xs i
theorem A2.at {R : α → β → Prop} {vs : List α} {xs : List β} {i : Int} {x : β} (h : A2 R vs xs) (e : atI xs i = some x) : ∃ v, atI vs i = some v ∧ R v x := by
  unfold atI at e ⊢
  rw [h.length]
  cases z : ixN xs.length i with
  | none => rw [z] at e; cases e
  | some j =>
    rw [z] at e
    exact h.get e
theorem v_ixL {r : Rep α} : VR2 K (rIxL K) (rd (oL r)) (ir rI) r gIx := fun G H v w a b c Q s ⟨L, ho, h1, h2, vs, h3, h4⟩ hi hg k => by
  subst h1 h3; cases hi
  obtain ⟨x, hx, hr⟩ := h4.at hg
  exact ⟨L, vs, b, x, rfl, rfl, sql_h h2, hx, k _ G H (.refl s) hr⟩
theorem v_ixT {r : Rep α} : VR2 K (rIxT K) (rd (oT r)) (ir rI) r gIx := fun G H v w a b c Q s ⟨L, ho, h1, h2, vs, h3, h4⟩ hi hg k => by
  subst h1 h3; cases hi
  obtain ⟨x, hx, hr⟩ := h4.at hg
  exact ⟨L, vs, b, x, rfl, rfl, sqt_h h2, hx, k _ G H (.refl s) hr⟩
theorem v_ixS : VR2 K (rIxL K) (ir rScr) (ir rI) rI gIx := fun G H v w a b c Q s hS hi hg k => by
  cases hi
  obtain ⟨L, rfl, hf⟩ := rScr.mono s hS
  have : A2 (fun v (i : Int) => v = V.int i) (a.map V.int) a := .ofMap fun _ _ => rfl
  obtain ⟨x, hx, hr⟩ := this.at hg
  exact ⟨L, _, b, x, rfl, rfl, hf.sql, hx, k _ G H (.refl s) hr⟩
/-- items of a pair, of three, by written numbers -/
def gFst (p : α × β) (i : Int) : Option α := if i = 0 then some p.1 else none
def gSnd (p : α × β) (i : Int) : Option β := if i = 1 then some p.2 else none
def g31 (p : α × β × γ) (i : Int) : Option β := if i = 1 then some p.2.1 else none
def g32 (p : α × β × γ) (i : Int) : Option γ := if i = 2 then some p.2.2 else none
theorem of_ite {c : Prop} [Decidable c] {x y : α} (h : (if c then some x else none) = some y) : c ∧ x = y := by
  split at h
  · next hc => cases h; exact ⟨hc, rfl⟩
  · cases h
theorem v_t20 {r : Rep α} {r' : Rep β} : VR2 K (rIxT K) (rd (oT2 r r')) (ir rI) r gFst := fun G H v w a b c Q s ⟨L, ho, h1, h2, x, y, h3, h4, h5⟩ hi hg k => by
  subst h1 h3; cases hi
  obtain ⟨rfl, rfl⟩ := of_ite hg
  exact ⟨L, _, 0, x, rfl, rfl, sqt_h h2, rfl, k _ G H (.refl s) h4⟩
theorem v_t21 {r : Rep α} {r' : Rep β} : VR2 K (rIxT K) (rd (oT2 r r')) (ir rI) r' gSnd := fun G H v w a b c Q s ⟨L, ho, h1, h2, x, y, h3, h4, h5⟩ hi hg k => by
  subst h1 h3; cases hi
  obtain ⟨rfl, rfl⟩ := of_ite hg
  exact ⟨L, _, 1, y, rfl, rfl, sqt_h h2, rfl, k _ G H (.refl s) h5⟩
theorem v_l20 {r : Rep α} {r' : Rep β} : VR2 K (rIxL K) (rd (oL2 r r')) (ir rI) r gFst := fun G H v w a b c Q s ⟨L, ho, h1, h2, x, y, h3, h4, h5⟩ hi hg k => by
  subst h1 h3; cases hi
  obtain ⟨rfl, rfl⟩ := of_ite hg
  exact ⟨L, _, 0, x, rfl, rfl, sql_h h2, rfl, k _ G H (.refl s) h4⟩
theorem v_l21 {r : Rep α} {r' : Rep β} : VR2 K (rIxL K) (rd (oL2 r r')) (ir rI) r' gSnd := fun G H v w a b c Q s ⟨L, ho, h1, h2, x, y, h3, h4, h5⟩ hi hg k => by
  subst h1 h3; cases hi
  obtain ⟨rfl, rfl⟩ := of_ite hg
  exact ⟨L, _, 1, y, rfl, rfl, sql_h h2, rfl, k _ G H (.refl s) h5⟩
theorem v_l30 {r : Rep α} {r' : Rep β} {r'' : Rep γ} : VR2 K (rIxL K) (rd (oL3 r r' r'')) (ir rI) r gFst := fun G H v w a b c Q s ⟨L, ho, h1, h2, x, y, z, h3, h4, h5, h6⟩ hi hg k => by
  subst h1 h3; cases hi
  obtain ⟨rfl, rfl⟩ := of_ite hg
  exact ⟨L, _, 0, x, rfl, rfl, sql_h h2, rfl, k _ G H (.refl s) h4⟩
theorem v_l31 {r : Rep α} {r' : Rep β} {r'' : Rep γ} : VR2 K (rIxL K) (rd (oL3 r r' r'')) (ir rI) r' g31 := fun G H v w a b c Q s ⟨L, ho, h1, h2, x, y, z, h3, h4, h5, h6⟩ hi hg k => by
  subst h1 h3; cases hi
  obtain ⟨rfl, rfl⟩ := of_ite hg
  exact ⟨L, _, 1, y, rfl, rfl, sql_h h2, rfl, k _ G H (.refl s) h5⟩
theorem v_l32 {r : Rep α} {r' : Rep β} {r'' : Rep γ} : VR2 K (rIxL K) (rd (oL3 r r' r'')) (ir rI) r'' g32 := fun G H v w a b c Q s ⟨L, ho, h1, h2, x, y, z, h3, h4, h5, h6⟩ hi hg k => by
  subst h1 h3; cases hi
  obtain ⟨rfl, rfl⟩ := of_ite hg
  exact ⟨L, _, 2, z, rfl, rfl, sql_h h2, rfl, k _ G H (.refl s) h6⟩
/-- xs + ys -/
def gCat (xs ys : List α) : Option (List α) := if xs.length + ys.length ≤ 1000000 then some (xs ++ ys) else none
theorem v_cat {r : Rep α} : VF2 K rCat (rd (oL r)) (rd (oL r)) (oL r) gCat := fun G H v w a b c Q s ⟨L, ho, h1, h2, vs, h3, h4⟩ ⟨L', ho', h1', h2', vs', h3', h4'⟩ hg k => by
  subst h1 h3 h1' h3'
  obtain ⟨hz, rfl⟩ := of_ite hg
  exact ⟨L, L', vs, vs', rfl, rfl, h2, h2', by rw [h4.length, h4'.length, sizeLine_eq]; omega, fun p hp => k p _ G _ (.own s hp) hp (s.no hp) upd_same ⟨_, rfl, h4.app h4'⟩⟩
theorem v_catT {r : Rep α} : VR2 K (rCatA K) (ir (rT r)) (ir (rT r)) (rT r) gCat := fun G H v w a b c Q s ⟨L, ho, h1, h2, vs, h3, h4⟩ ⟨L', ho', h1', h2', vs', h3', h4'⟩ hg k => by
  subst h1 h3 h1' h3'
  obtain ⟨hz, rfl⟩ := of_ite hg
  refine ⟨L, L', vs, vs', rfl, rfl, sqt_of s h2, sqt_of s h2', by rw [h4.length, h4'.length, sizeLine_eq]; omega, fun e => ?_, fun _ e => ?_, fun _ _ p hp => k (.ref p) _ _ (.new s hp) ⟨p, _, rfl, upd_same, _, rfl, (h4.app h4').mono fun _ _ => r.mono (sub_upd (s.no hp))⟩⟩
  · refine k (.ref L') G H (.refl s) ⟨L', _, rfl, h2', vs', rfl, ?_⟩
    subst e
    cases h4
    exact h4'
  · refine k (.ref L) G H (.refl s) ⟨L, _, rfl, h2, vs, rfl, ?_⟩
    subst e
    cases h4'
    rw [List.append_nil]
    exact h4
/-- xs * k -/
def gRep (xs : List α) (k : Int) : Option (List α) := if (-(2 ^ 62) ≤ k ∧ k < 2 ^ 62) ∧ xs.length * k.toNat ≤ 1000000 then some (List.replicate k.toNat xs).flatten else none
/-- slices -/
def cutL (xs : List α) (lo hi : Option Int) : List α := (xs.drop (HT.sIx xs.length 0 lo)).take (HT.sIx xs.length xs.length hi - HT.sIx xs.length 0 lo)
def gCut (xs : List α) (lo hi : Option Int) : Option (List α) := some (cutL xs lo hi)
theorem A2.cut {R : V → β → Prop} {vs : List V} {xs : List β} {lo hi : Option Int} (h : A2 R vs xs) : A2 R (cutV vs lo hi) (cutL xs lo hi) := by
  unfold cutV cutL
  rw [h.length]
  exact h.drop.take
theorem v_slL {r : Rep α} : VSlF K (rSlL K) (rd (oL r)) (oL r) gCut := fun lo hi G H v a b Q s ⟨L, ho, h1, h2, vs, h3, h4⟩ hg k => by
  subst h1 h3; cases hg
  exact ⟨L, vs, rfl, sql_h h2, fun p hp => k p _ G _ (.own s hp) hp (s.no hp) upd_same ⟨_, rfl, h4.cut⟩⟩
/-- tuple(xs), list(xs) -/
def gId (xs : List α) : Option (List α) := some xs
theorem v_tupOfL {r : Rep α} : VR K (rTupOf K) (aOne (rd (oL r))) (rT r) gId := fun G H v a b Q s ⟨x, h0, L, ho, h1, h2, vs, h3, h4⟩ hg k => by
  cases hg; subst h0 h1 h3
  exact ⟨L, vs, rfl, .inl ⟨sql_h h2, fun p hp => k (.ref p) _ _ (.new s hp) ⟨p, _, rfl, upd_same, _, rfl, h4.mono fun _ _ => r.mono (sub_upd (s.no hp))⟩⟩⟩
theorem v_lstOfL {r : Rep α} : VF K (rListOf K) (aOne (rd (oL r))) (oL r) gId := fun G H v a b Q s ⟨x, h0, L, ho, h1, h2, vs, h3, h4⟩ hg k => by
  cases hg; subst h0 h1 h3
  exact ⟨L, vs, rfl, .inl (sql_h h2), fun p hp => k p _ G _ (.own s hp) hp (s.no hp) upd_same ⟨_, rfl, h4⟩⟩
theorem v_lstOfT {r : Rep α} : VF K (rListOf K) (aOne (rd (oT r))) (oL r) gId := fun G H v a b Q s ⟨x, h0, L, ho, h1, h2, vs, h3, h4⟩ hg k => by
  cases hg; subst h0 h1 h3
  exact ⟨L, vs, rfl, .inr (sqt_h h2), fun p hp => k p _ G _ (.own s hp) hp (s.no hp) upd_same ⟨_, rfl, h4⟩⟩
def gRg (n : Int) : Option (List Int) := if 0 ≤ n ∧ n ≤ 1000000 then some (rng 0 n) else none
/-- xs[::-1] -/
def gRev (xs : List α) : Option (List α) := some xs.reverse
def gIn [DecidableEq α] (a : α) (xs : List α) : Option Bool := some (decide (a ∈ xs))
def gNin [DecidableEq α] (a : α) (xs : List α) : Option Bool := some (!decide (a ∈ xs))
theorem ints_of {G : Hp} {vs : List V} {ns : List Int} (h : A2 (rI.rel K G) vs ns) : vs = ns.map V.int := A2.eqMap h
theorem v_inLI : VR2 K (rIn K false) (ir rI) (rd (oL rI)) rB gIn := fun G H v w a b c Q s h1 ⟨L, ho, h2, h3, vs, h4, h5⟩ hg k => by
  subst h2 h4; cases h1; cases hg
  obtain rfl := ints_of h5
  exact ⟨L, _, rfl, .inl (sql_h h3), rfl, flat_ints b, by rw [if_neg (by decide), inV_int]; exact k _ G H (.refl s) rfl⟩
theorem v_ninTI : VR2 K (rIn K true) (ir rI) (rd (oT rI)) rB gNin := fun G H v w a b c Q s h1 ⟨L, ho, h2, h3, vs, h4, h5⟩ hg k => by
  subst h2 h4; cases h1; cases hg
  obtain rfl := ints_of h5
  exact ⟨L, _, rfl, .inr (sqt_h h3), rfl, flat_ints b, by rw [if_pos rfl, inV_int]; exact k _ G H (.refl s) rfl⟩
end
section
variable {K : PySem.W.Frag} {α β γ ε ρ : Type} {w : World} {P : Program}
structure En (α : Type) where
  enc : α → PyData
  lay : ∀ a, (enc a).canLay0 = true
  dn : Nat
  dep : ∀ a, (enc a).depth ≤ dn
def EnEq [DecidableEq α] (E : En α) : Prop := ∀ a b, PyData.eqv (E.enc a) (E.enc b) = decide (a = b)
def Da (i : IR V α) (E : En α) : Prop := ∀ K G H v a, Sub G H → i K G H v a → Dp K H v (E.enc a)
theorem En.shaped (E : En α) (h : E.dn ≤ 60) (a : α) : SeqAt.shaped (E.enc a) = true := by
  unfold SeqAt.shaped
  rw [E.lay, Bool.true_and]
  exact decide_eq_true (Nat.le_trans (E.dep a) (by omega))
def enI : En Int := ⟨.int, fun _ => by simp [PyData.canLay0], 0, fun _ => by simp [PyData.depth]⟩
theorem layAll {xs : List PyData} (h : ∀ x ∈ xs, x.canLay0 = true) : PyData.canLayAll0 xs = true := by
  induction xs with
  | nil => simp [PyData.canLayAll0]
  | cons x xs ih =>
    simp only [PyData.canLayAll0, h x List.mem_cons_self, ih fun y hy => h y (List.mem_cons_of_mem _ hy), Bool.and_true]
def enL (E : En α) : En (List α) := ⟨fun xs => .list (xs.map E.enc), fun xs => by
    unfold PyData.canLay0
    exact layAll fun x hx => by obtain ⟨y, _, rfl⟩ := List.mem_map.mp hx; exact E.lay y, E.dn + 1, fun xs => by
    have := depthAll_le (m := E.dn) (xs := xs.map E.enc) fun x hx => by obtain ⟨y, _, rfl⟩ := List.mem_map.mp hx; exact E.dep y
    simp only [PyData.depth]
    omega⟩
def enT (E : En α) : En (List α) := ⟨fun xs => .tuple (xs.map E.enc), fun xs => by
    unfold PyData.canLay0
    exact layAll fun x hx => by obtain ⟨y, _, rfl⟩ := List.mem_map.mp hx; exact E.lay y, E.dn + 1, fun xs => by
    have := depthAll_le (m := E.dn) (xs := xs.map E.enc) fun x hx => by obtain ⟨y, _, rfl⟩ := List.mem_map.mp hx; exact E.dep y
    simp only [PyData.depth]
    omega⟩
def enT2 (E : En α) (E' : En β) : En (α × β) := ⟨fun p => .tuple [E.enc p.1, E'.enc p.2], fun p => by
    unfold PyData.canLay0
    simp [PyData.canLayAll0, E.lay, E'.lay], max E.dn E'.dn + 1, fun p => by
    have h1 := E.dep p.1
    have h2 := E'.dep p.2
    simp only [PyData.depth, PyData.depthAll]
    omega⟩
theorem da_I : Da (ir rI) enI := fun K G H v a s h => by cases h; exact .int a
theorem dpAll {r : Rep α} {E : En α} (d : Da (ir r) E) {G H : Hp} {vs : List V} {as : List α} (s : Sub G H) (h : A2 (r.rel K G) vs as) : DpAll K H vs (as.map E.enc) := by
  induction h with
  | nil => exact .nil
  | cons h _ ih => exact .cons (d _ _ _ _ _ s h) ih
theorem da_Lr {r : Rep α} {E : En α} (d : Da (ir r) E) : Da (rd (oL r)) (enL E) := fun K G H v a s ⟨L, ho, h1, h2, vs, h3, h4⟩ => by
  subst h1 h3
  exact .lst (sql_h h2) (dpAll d s h4)
theorem da_Tr {r : Rep α} {E : En α} (d : Da (ir r) E) : Da (rd (oT r)) (enT E) := fun K G H v a s ⟨L, ho, h1, h2, vs, h3, h4⟩ => by
  subst h1 h3
  exact .tup (sqt_h h2) (dpAll d s h4)
theorem Da.z {q : ORep α} {E : En α} (d : Da (rd q) E) : Da (ir (rz q)) E := fun K G H v a s h => d K G H v a s (Cv.ob _ _ _ _ _ s h)
theorem da_L {r : Rep α} {E : En α} (d : Da (ir r) E) : Da (ir (rL r)) (enL E) := (da_Lr d).z
theorem da_T {r : Rep α} {E : En α} (d : Da (ir r) E) : Da (ir (rT r)) (enT E) := (da_Tr d).z
theorem da_T2 {r : Rep α} {r' : Rep β} {E : En α} {E' : En β} (d : Da (ir r) E) (d' : Da (ir r') E') : Da (ir (rT2 r r')) (enT2 E E') := Da.z fun K G H v a s ⟨L, ho, h1, h2, x, y, h3, h4, h5⟩ => by
  subst h1 h3
  exact .tup (sqt_h h2) (.cons (d _ _ _ _ _ s h4) (.cons (d' _ _ _ _ _ s h5) .nil))
theorem eq_I : EnEq enI := fun a b => by simp [enI, PyData.eqv]; rfl
theorem eqvAll_map [DecidableEq α] {E : En α} (h : EnEq E) : ∀ xs ys : List α, PyData.eqvAll (xs.map E.enc) (ys.map E.enc) = decide (xs = ys)
  | [], [] => by simp [PyData.eqvAll]
  | [], _ :: _ => by simp [PyData.eqvAll]
  | _ :: _, [] => by simp [PyData.eqvAll]
  | x :: xs, y :: ys => by
    simp only [List.map_cons, PyData.eqvAll, h x y, eqvAll_map h xs ys]
    rw [Bool.eq_iff_iff]
    simp
theorem eq_L [DecidableEq α] {E : En α} (h : EnEq E) : EnEq (enL E) := fun xs ys => by simp only [enL, PyData.eqv]; exact eqvAll_map h xs ys
theorem eq_T [DecidableEq α] {E : En α} (h : EnEq E) : EnEq (enT E) := fun xs ys => by simp only [enT, PyData.eqv]; exact eqvAll_map h xs ys
theorem eq_T2 [DecidableEq α] [DecidableEq β] {E : En α} {E' : En β} (h : EnEq E) (h' : EnEq E') : EnEq (enT2 E E') := fun x y => by
  simp only [enT2, PyData.eqv, PyData.eqvAll, h x.1 y.1, h' x.2 y.2]
  rw [Bool.eq_iff_iff]
  simp [Prod.ext_iff]
theorem v_eqD [DecidableEq α] {i i' : IR V α} {E : En α} (d : Da i E) (d' : Da i' E) (h : EnEq E) (hn : E.dn ≤ 60) : VR2 K (rEqD K) i i' rB gEq := fun G H v w a b c Q s h1 h2 hg k => by
  cases hg
  exact ⟨_, _, d _ _ _ _ _ s h1, d' _ _ _ _ _ s h2, E.shaped hn a, E.shaped hn b, by rw [h]; exact k _ G H (.refl s) rfl⟩
theorem v_neD [DecidableEq α] {i i' : IR V α} {E : En α} (d : Da i E) (d' : Da i' E) (h : EnEq E) (hn : E.dn ≤ 60) : VR2 K (rNeD K) i i' rB gNe := fun G H v w a b c Q s h1 h2 hg k => by
  cases hg
  exact ⟨_, _, d _ _ _ _ _ s h1, d' _ _ _ _ _ s h2, E.shaped hn a, E.shaped hn b, by rw [h]; exact k _ G H (.refl s) rfl⟩
theorem any_enc [DecidableEq α] {E : En α} (h : EnEq E) (a : α) : ∀ xs : List α, ((xs.map E.enc).any fun z => PyData.eqv z (E.enc a)) = decide (a ∈ xs)
  | [] => by simp
  | x :: xs => by
    rw [List.map_cons, List.any_cons, any_enc h a xs, h]
    by_cases e : x = a
    · subst e
      rw [decide_eq_true rfl, Bool.true_or, decide_eq_true List.mem_cons_self]
    · have e' : ¬ a = x := fun z => e z.symm
      rw [decide_eq_false e, Bool.false_or]
      exact decide_eq_decide.mpr ⟨fun m => List.mem_cons_of_mem _ m, fun m => (List.mem_cons.mp m).elim (fun z => absurd z e') id⟩
theorem v_ninD [DecidableEq α] {i : IR V α} {i' : IR V (List α)} {E : En α} (d : Da i E) (d' : Da i' (enL E)) (h : EnEq E) (hn : E.dn ≤ 59) : VR2 K (rNotInD K) i i' rB gNin := fun G H v w a b c Q s h1 h2 hg k => by
  cases hg
  exact ⟨_, _, d _ _ _ _ _ s h1, d' _ _ _ _ _ s h2, E.shaped (by omega) a, (enL E).shaped (by show E.dn + 1 ≤ 60; omega) b, by rw [any_enc h]; exact k _ G H (.refl s) rfl⟩
/-- repr of a list or a tuple -/
def rpOk (d : PyData) : Bool := small 80 d && decide (cost 80 d ≤ 16777216)
def gRepr (E : En α) (a : α) : Option Str := if rpOk (E.enc a) = true then some (E.enc a).shown else none
def gAll (bs : List Bool) : Option Bool := some (bs.all id)
def gAny (bs : List Bool) : Option Bool := some (bs.any id)
def gSum (ns : List Int) : Option Int := some ns.sum
/-- the greatest of some numbers -/
def maxL : List Int → Int
  | [] => 0
  | [x] => x
  | x :: y :: xs => max x (maxL (y :: xs))
def gMax (ns : List Int) : Option Int := if 0 < ns.length then some (maxL ns) else none
def absI (i : Int) : Int := if i < 0 then -i else i
theorem absI_nonneg (i : Int) : 0 ≤ absI i := by unfold absI; split <;> omega
def gAbs (i : Int) : Option Int := some (absI i)
theorem v_abs : VR K rAbs (aOne (ir rI)) rI gAbs := fun G H v a b Q s ⟨x, h0, h1⟩ hg k => by
  cases hg; cases h1; subst h0
  exact ⟨a, rfl, k _ G H (.refl s) rfl⟩
def gIntB (b : Bool) : Option Int := some (if b = true then 1 else 0)
theorem v_intB : VR K rIntB (aOne (ir rB)) rI gIntB := fun G H v a b Q s ⟨x, h0, h1⟩ hg k => by
  cases hg; cases h1; subst h0
  exact w_intB (k _ G H (.refl s) rfl)
/-- sorted(xs) of numbers -/
def srt (ns : List Int) : List Int := ns.mergeSort leI
theorem srt_perm (ns : List Int) : (srt ns).Perm ns := List.mergeSort_perm _ _
theorem srt_pw (ns : List Int) : (srt ns).Pairwise (· ≤ ·) :=
  (List.pairwise_mergeSort (le := leI) (fun a b c h1 h2 => by simp only [leI, decide_eq_true_eq] at *; omega) (fun a b => by simp only [leI, Bool.or_eq_true, decide_eq_true_eq]; omega) ns).imp fun h => of_decide_eq_true h
theorem srt_eq {ns ms : List Int} (p : ms.Perm ns) (h : ms.Pairwise (· ≤ ·)) : ms = srt ns :=
  List.Perm.eq_of_pairwise (fun x y _ _ h1 h2 => Int.le_antisymm h1 h2) h (srt_pw ns) (p.trans (srt_perm ns).symm)
def gSort (ns : List Int) : Option (List Int) := if ns.length ≤ 1000000 then some (srt ns) else none
theorem v_sortL : VF K (rSortedI K) (aOne (rd (oL rI))) (oL rI) gSort := fun G H v a b Q s ⟨x, h0, L, ho, h1, h2, vs, h3, h4⟩ hg k => by
  subst h0 h1 h3
  obtain ⟨hz, rfl⟩ := of_ite hg
  obtain rfl := ints_of h4
  refine ⟨L, a, rfl, sql_h h2, fun ns' p pm pw hp => ?_⟩
  rw [srt_eq pm pw]
  exact k p _ G _ (.own s hp) hp (s.no hp) upd_same ⟨_, rfl, .ofMap fun _ _ => rfl⟩
theorem v_sortT : VF K (rSortTI K) (aOne (rd (oT rI))) (oL rI) gSort := fun G H v a b Q s ⟨x, h0, L, ho, h1, h2, vs, h3, h4⟩ hg k => by
  subst h0 h1 h3
  obtain ⟨hz, rfl⟩ := of_ite hg
  obtain rfl := ints_of h4
  exact ⟨L, a, rfl, sqt_h h2, hz, fun p hp => k p _ G _ (.own s hp) hp (s.no hp) upd_same ⟨_, rfl, .ofMap fun _ _ => rfl⟩⟩
def gSet (ns : List Int) : Option (List Int) := if ns.length ≤ 1000 then some ns else none
/-- rising, each once -/
def insS (x : Int) : List Int → List Int
  | [] => [x]
  | y :: ys => if x < y then x :: y :: ys else if x = y then y :: ys else y :: insS x ys
def sset (ns : List Int) : List Int := ns.foldr insS []
theorem rise_eq : ∀ {xs ys : List Int}, xs.Pairwise (· < ·) → ys.Pairwise (· < ·) → (∀ z, z ∈ xs ↔ z ∈ ys) → xs = ys
  | [], [], _, _, _ => rfl
  | [], y :: ys, _, _, h => absurd ((h y).mpr List.mem_cons_self) List.not_mem_nil
  | x :: xs, [], _, _, h => absurd ((h x).mp List.mem_cons_self) List.not_mem_nil
  | x :: xs, y :: ys, hx, hy, h => by
    obtain ⟨hx1, hx2⟩ := List.pairwise_cons.mp hx
    obtain ⟨hy1, hy2⟩ := List.pairwise_cons.mp hy
    have e : x = y := by
      rcases List.mem_cons.mp ((h x).mp List.mem_cons_self) with e | m
      · exact e
      · rcases List.mem_cons.mp ((h y).mpr List.mem_cons_self) with e | m'
        · exact e.symm
        · have := hy1 x m
          have := hx1 y m'
          omega
    subst e
    rw [rise_eq hx2 hy2 fun z => ⟨fun m => ?_, fun m => ?_⟩]
    · rcases List.mem_cons.mp ((h z).mp (List.mem_cons_of_mem _ m)) with e | m'
      · have := hx1 z m; omega
      · exact m'
    · rcases List.mem_cons.mp ((h z).mpr (List.mem_cons_of_mem _ m)) with e | m'
      · have := hy1 z m; omega
      · exact m'
def gSset (ns : List Int) : Option (List Int) := if ns.length < 64 then some (sset ns) else none
def VM (K : PySem.W.Frag) (T : V → List V → Hp → VK → Prop) (q : ORep γ) (ra : GR (List V) α) (r : Rep β) (g : γ → α → Option (β × γ)) : Prop :=
  ∀ G H L ho st vs a b st' Q, Sub G H → H L = some ho → G L = none → q.rel K G ho st → ra.rel K G vs a → g st a = some (b, st') → (∀ v ho', q.rel K G ho' st' → r.rel K G v b → Q v (upd H L ho')) → T (.ref L) vs H Q
def Ty (T : String) (q : ORep γ) : Prop := ∀ K G H L ho st, H L = some ho → q.rel K G ho st → tyV K T (.ref L) H
theorem IV.put {F : Frm} {G H : Hp} {L : Addr} {ho ho' : HO} {own : Frm → Addr → Prop} (oq : OwnQ own) (i : IV F G H) (h : H L = some ho) (g : G L = none) (o : own F L) (nt : ∀ xs, ho' ≠ .tup xs) : IV F G (upd H L ho') := by
  obtain ⟨o1, o2, o3⟩ := oq F L o
  refine ⟨fun b u e => ?_, i.g0, i.new, fun b u hb hu => ?_, fun b hb => ?_, fun b u e => ?_, i.xg, fun b u e => ?_, i.yg, i.tp.put nt⟩
  · rw [upd_ne (fun z => by rw [z, g] at e; cases e)]; exact i.gh b u e
  · rw [upd_ne (fun z => by subst z; rcases o1 with o1 | o1; rw [o1] at hu; cases hu; exact hb o1)]; exact i.fr b u hb hu
  · by_cases z : b = L
    · subst z; rw [upd_same]; intro z; cases z
    · rw [upd_ne z]; exact i.al b hb
  · rw [upd_ne (fun z => by rw [z, o2] at e; cases e)]; exact i.xs b u e
  · rw [upd_ne (fun z => by rw [z, o3] at e; cases e)]; exact i.ys b u e
def NT (q : ORep γ) : Prop := ∀ K G ho a, q.rel K G ho a → ∀ xs, ho ≠ .tup xs
theorem nt_L {r : Rep α} : NT (oL r) := fun K G ho a ⟨vs, h, _⟩ xs e => by rw [h] at e; cases e
theorem nt_L3 {r : Rep α} {r' : Rep β} {r'' : Rep γ} : NT (oL3 r r' r'') := fun K G ho a ⟨_, _, _, h, _⟩ xs e => by rw [h] at e; cases e
def mBM (l : Ln ε γ) (g : γ → α → Option (β × γ)) (m : ε → Rs ε α) : ε → Rs ε β := fun e => match l.get e with
  | none => .bad
  | some _ => (m e).bind fun a e1 => match l.get e1 with
    | none => .bad
    | some st => match g st a with
      | none => .bad
      | some (b, st') => .ok b (l.put (some st') (l.put none e1))
variable {M : Mx} {R : ERep ε}
theorem x_bm {n : Nat} {own : Frm → Addr → Prop} {l : Ln ε γ} {q : ORep γ} {Tn : String} {T : V → List V → Hp → VK → Prop} {t : TA} {ra : GR (List V) α} {r : Rep β} {g : γ → α → Option (β × γ)} {m : ε → Rs ε α}
    (vm : VM M.K T q ra r g) (ty : Ty Tn q) (nt : NT q) (oq : OwnQ own) (at' : OwAt R n own q l) (h : EX M R t (fz ra) m) : EX M R (tBM M.K Tn T (tVar n) t) (fz r) (mBM l g m) := fun F G H σ e i hR Q p => by
  unfold mBM at p
  cases h0 : l.get e with
  | none => rw [h0] at p; exact p.elim
  | some st0 =>
    rw [h0] at p
    obtain ⟨L0, ho0, h1, h1b, _, _, h1c, _⟩ := at'.rd hR h0
    refine ⟨_, h1, ty _ _ _ _ _ _ h1b h1c, h F G H σ e i hR _ (p.bind fz_h fun vs a e1 G1 H1 i1 s1 R1 r1 p1 => ?_)⟩
    cases h2 : l.get e1 with
    | none => rw [h2] at p1; exact p1.elim
    | some st =>
      rw [h2] at p1
      obtain ⟨L, hob, h3, h4, h5, h6, h7, h8⟩ := at'.rd R1 h2
      rw [h1] at h3
      cases h3
      dsimp only at p1
      cases hg : g st a with
      | none => rw [hg] at p1; exact p1.elim
      | some bs =>
        obtain ⟨b, st'⟩ := bs
        rw [hg] at p1
        exact vm G1 H1 L0 hob st vs a b st' Q i1.gh h4 h5 h7 r1.1 hg fun v ho' hq hr => p1 v G1 _ _ (i1.put oq h4 h5 h6 (nt _ _ _ _ hq)) .refl ⟨hr, rfl⟩ (at'.bk (by rw [hide_upd]; exact h8) h1 upd_same h5 h6 hq)
def mBM0 (l : Ln ε γ) (g : γ → Unit → Option (β × γ)) : ε → Rs ε β := mBM l g (mC ())
theorem ty_L {r : Rep α} : Ty "list" (oL r) := fun K G H L ho st h ⟨vs, h1, _⟩ => by subst h1; exact .inl ⟨rfl, _, sql_h h⟩
/-- xs.append(y), insert, pop, extend, reverse -/
def gApp (xs : List α) (y : α) : Option (Unit × List α) := if xs.length < 1000000 then some ((), xs ++ [y]) else none
theorem v_app {r : Rep α} : VM K rAppend (oL r) (gOne r) rN gApp := fun G H L ho st vs a b st' Q s h1 h2 ⟨ws, h3, h4⟩ ⟨v, h5, h6⟩ hg k => by
  subst h3 h5
  obtain ⟨hz, e⟩ := of_ite hg
  cases e
  exact ⟨L, ws, v, rfl, rfl, h1, by rw [h4.length, sizeLine_eq]; omega, k _ _ ⟨_, rfl, h4.app (.cons h6 .nil)⟩ rfl⟩
def gIns (xs : List α) (p : Int × α) : Option (Unit × List α) := if xs.length < 1000000 ∧ 0 ≤ p.1 ∧ p.1 < 2 ^ 62 then some ((), xs.take p.1.toNat ++ [p.2] ++ xs.drop p.1.toNat) else none
def rIns : V → List V → Hp → VK → Prop := fun x vs H Q => ∃ (l : Addr) (xs : List V) (i : Int) (y : V), x = .ref l ∧ vs = [.int i, y] ∧ H l = some (.lst xs) ∧ xs.length < sizeLine ∧ 0 ≤ i ∧ i < 2 ^ 63 ∧ Q .non (upd H l (.lst (xs.take i.toNat ++ [y] ++ xs.drop i.toNat)))
theorem v_ins {r : Rep α} : VM K rIns (oL r) (gConsA rI (gOne r)) rN gIns := fun G H L ho st vs a b st' Q s h1 h2 ⟨ws, h3, h4⟩ ⟨v, us, h5, h6, v', h7, h8⟩ hg k => by
  subst h3 h5 h7
  obtain ⟨hz, e⟩ := of_ite hg
  cases e
  rw [show v = .int a.1 from h6]
  exact ⟨L, ws, a.1, v', rfl, rfl, h1, by rw [h4.length, sizeLine_eq]; omega, hz.2.1, by omega, k _ _ ⟨_, rfl, (h4.take.app (.cons h8 .nil)).app h4.drop⟩ rfl⟩
def gPopAt (xs : List α) (i : Int) : Option (α × List α) := if 0 ≤ i ∧ i < 2 ^ 62 then (xs[i.toNat]?).map fun x => (x, xs.eraseIdx i.toNat) else none
theorem v_popAt {r : Rep α} : VM K rPopAt (oL r) (gOne rI) r gPopAt := fun G H L ho st vs a b st' Q s h1 h2 ⟨ws, h3, h4⟩ ⟨v, h5, h6⟩ hg k => by
  subst h3 h5
  rw [show v = .int a from h6]
  unfold gPopAt at hg
  split at hg
  · next hz =>
    cases e : st[a.toNat]? with
    | none => rw [e] at hg; cases hg
    | some x =>
      rw [e] at hg
      cases hg
      obtain ⟨y, hy, hr⟩ := h4.get e
      have hl : a.toNat < ws.length := (List.getElem?_eq_some_iff.mp hy).1
      refine ⟨L, ws, a, a.toNat, y, rfl, rfl, h1, by omega, by omega, ?_, hy, k _ _ ⟨_, rfl, h4.eraseIdx⟩ hr⟩
      unfold seqIndex?
      simp only [show ¬ (a < 0) by omega, if_false]
      rw [if_pos (by simp; omega)]
  · cases hg
def gExt (xs ys : List α) : Option (Unit × List α) := if xs.length + ys.length ≤ 1000000 then some ((), xs ++ ys) else none
def gRevM (xs : List α) (_ : Unit) : Option (Unit × List α) := some ((), xs.reverse)
def VS (K : PySem.W.Frag) (T : TSet) (q : ORep γ) (ri : Rep α) (r : Rep β) (g : γ → α → β → Option γ) : Prop :=
  ∀ G H L ho st i x v y st' Q, Sub G H → H L = some ho → G L = none → q.rel K G ho st → ri.rel K G i x → r.rel K G v y → g st x y = some st' → (∀ ho', q.rel K G ho' st' → Q (upd H L ho')) → T (.ref L) i v H Q
def mSetI (l : Ln ε γ) (g : γ → α → β → Option γ) (mi : ε → Rs ε α) (m : ε → Rs ε β) : ε → So ε ρ := fun e => (m e).so fun y e1 => match l.get e1 with
  | none => .bad
  | some _ => (mi e1).so fun x e2 => match l.get e2 with
    | none => .bad
    | some st => match g st x y with
      | none => .bad
      | some st' => .nx (l.put (some st') (l.put none e2))
theorem s_setI {n : Nat} {own : Frm → Addr → Prop} {l : Ln ε γ} {q : ORep γ} {T : TSet} {te ti : TE} {ri : Rep α} {r : Rep β} {g : γ → α → β → Option γ} {m : ε → Rs ε β} {mi : ε → Rs ε α} {rr : RS V ρ}
    (vs : VS M.K T q ri r g) (nt : NT q) (oq : OwnQ own) (at' : OwAt R n own q l) (h : EX M R te (fz r) m) (hi : EX M R ti (fz ri) mi) : SX M R rr (tAsg te (gSub (tVar n) ti T)) (mSetI l g mi m) := fun F G H σ e i hR D p =>
  h F G H σ e i hR _ (p.so fun v y e1 G1 H1 H1' i1 s1 hr R1 p1 => by
    rw [hr.2] at R1
    cases h0 : l.get e1 with
    | none => rw [h0] at p1; exact p1.elim
    | some st0 =>
      rw [h0] at p1
      obtain ⟨L0, ho0, h1, _⟩ := at'.rd R1 h0
      refine ⟨_, h1, hi F G1 H1 σ e1 i1 R1 _ (p1.so fun iv x e2 G2 H2 H2' i2 s2 hr2 R2 p2 => ?_)⟩
      rw [hr2.2] at R2
      cases h2 : l.get e2 with
      | none => rw [h2] at p2; exact p2.elim
      | some st =>
        rw [h2] at p2
        obtain ⟨L, hob, h3, h4, h5, h6, h7, h8⟩ := at'.rd R2 h2
        rw [h1] at h3
        cases h3
        dsimp only at p2
        cases hg : g st x y with
        | none => rw [hg] at p2; exact p2.elim
        | some st' =>
          rw [hg] at p2
          exact vs G2 H2 L0 hob st iv x v y st' _ i2.gh h4 h5 h7 hr2.1 (r.mono s2 hr.1) hg fun ho' hq => p2 σ G2 _ (i2.put oq h4 h5 h6 (nt _ _ _ _ hq)) .refl (at'.bk (by rw [hide_upd]; exact h8) h1 upd_same h5 h6 hq))
def gSet31 (p : α × β × γ) (i : Int) (y : β) : Option (α × β × γ) := if i = 1 then some (p.1, y, p.2.2) else none
def gSet32 (p : α × β × γ) (i : Int) (y : γ) : Option (α × β × γ) := if i = 2 then some (p.1, p.2.1, y) else none
theorem v_set31 {r : Rep α} {r' : Rep β} {r'' : Rep γ} : VS K rSetL (oL3 r r' r'') rI r' gSet31 := fun G H L ho st i x v y st' Q s h1 h2 ⟨a, b, c, h3, h4, h5, h6⟩ hi hv hg k => by
  subst h3
  obtain ⟨rfl, rfl⟩ := of_ite hg
  rw [show i = .int 1 from hi]
  exact ⟨L, _, 1, 1, rfl, rfl, h1, rfl, k _ ⟨a, v, c, rfl, h4, hv, h6⟩⟩
theorem v_set32 {r : Rep α} {r' : Rep β} {r'' : Rep γ} : VS K rSetL (oL3 r r' r'') rI r'' gSet32 := fun G H L ho st i x v y st' Q s h1 h2 ⟨a, b, c, h3, h4, h5, h6⟩ hi hv hg k => by
  subst h3
  obtain ⟨rfl, rfl⟩ := of_ite hg
  rw [show i = .int 2 from hi]
  exact ⟨L, _, 2, 2, rfl, rfl, h1, rfl, k _ ⟨a, b, v, rfl, h4, h5, hv⟩⟩
end
section
variable {K : PySem.W.Frag} {α β γ ε ρ κ : Type} {w : World} {P : Program}
section
variable [DecidableEq κ]
def dget (kbs : List (κ × β)) (k : κ) : Option β := (kbs.find? fun kv => decide (kv.1 = k)).map (·.2)
def dput (kbs : List (κ × β)) (k : κ) (b : β) : List (κ × β) := if (kbs.any fun kv => decide (kv.1 = k)) = true then kbs.map (fun kv => if kv.1 = k then (kv.1, b) else kv) else kbs ++ [(k, b)]
def ddel (kbs : List (κ × β)) (k : κ) : List (κ × β) := kbs.filter fun kv => decide (kv.1 ≠ k)
end
/-- how keys are written -/
structure KeyR (κ κ' : Type) where
  f : κ → κ'
  inj : ∀ a b, f a = f b → a = b
def kTup : KeyR (List Int) (List Key) := ⟨fun ns => ns.map Sum.inl, fun a b h => by
  have : ∀ {a b : List Int}, a.map (Sum.inl : Int → Key) = b.map Sum.inl → a = b := by
    intro a
    induction a with
    | nil => intro b h; cases b with
      | nil => rfl
      | cons _ _ => cases h
    | cons x xs ih => intro b h; cases b with
      | nil => cases h
      | cons y ys =>
        simp only [List.map_cons, List.cons.injEq, Sum.inl.injEq] at h
        rw [h.1, ih h.2]
  exact this h⟩
def DR {κ' : Type} (kr : KeyR κ κ') (r : Rep β) (K : PySem.W.Frag) (G : Hp) : List (κ' × V) → List (κ × β) → Prop := A2 fun p q => p.1 = kr.f q.1 ∧ r.rel K G p.2 q.2
section
variable {κ' : Type} [DecidableEq κ] [DecidableEq κ'] {kr : KeyR κ κ'} {r : Rep β} {G : Hp} {kvs : List (κ' × V)} {kbs : List (κ × β)}
theorem key_iff {k k' : κ} : (kr.f k' = kr.f k) ↔ k' = k := ⟨kr.inj _ _, fun h => by rw [h]⟩
theorem DR.get (h : DR kr r K G kvs kbs) (k : κ) : match dget kbs k with
    | none => valV kvs (kr.f k) = none
    | some b => ∃ v, valV kvs (kr.f k) = some v ∧ r.rel K G v b := by
  unfold dget valV
  induction h with
  | nil => rfl
  | @cons p q ps qs hh _ ih =>
    rw [List.find?_cons, List.find?_cons]
    by_cases e : q.1 = k
    · have e1 : decide (p.1 = kr.f k) = true := decide_eq_true (by rw [hh.1, e])
      have e2 : decide (q.1 = k) = true := decide_eq_true e
      simp only [e1, e2, Option.map_some]
      exact ⟨_, rfl, hh.2⟩
    · have e1 : decide (p.1 = kr.f k) = false := decide_eq_false (by rw [hh.1, key_iff]; exact e)
      have e2 : decide (q.1 = k) = false := decide_eq_false e
      simp only [e1, e2]
      exact ih
theorem DR.any (h : DR kr r K G kvs kbs) (k : κ) : (kvs.any fun kv => decide (kv.1 = kr.f k)) = kbs.any fun kv => decide (kv.1 = k) := by
  induction h with
  | nil => rfl
  | @cons p q ps qs hh _ ih =>
    rw [List.any_cons, List.any_cons, ih, hh.1]
    congr 1
    exact decide_eq_decide.mpr key_iff
theorem DR.put (h : DR kr r K G kvs kbs) {k : κ} {v : V} {b : β} (hv : r.rel K G v b) : DR kr r K G (putK kvs (kr.f k) v) (dput kbs k b) := by
  unfold putK dput
  rw [h.any k]
  split
  · have : ∀ {kvs : List (κ' × V)} {kbs : List (κ × β)}, DR kr r K G kvs kbs → DR kr r K G (kvs.map fun kv => if kv.1 = kr.f k then (kv.1, v) else kv) (kbs.map fun kv => if kv.1 = k then (kv.1, b) else kv) := fun h => by
      induction h with
      | nil => exact .nil
      | @cons p q ps qs hh _ ih =>
        refine .cons ?_ ih
        dsimp only
        by_cases e : q.1 = k
        · rw [if_pos e, if_pos (by rw [hh.1, e])]
          exact ⟨hh.1, hv⟩
        · rw [if_neg e, if_neg (by rw [hh.1, key_iff]; exact e)]
          exact hh
    exact this h
  · exact A2.app h (.cons ⟨rfl, hv⟩ .nil)
end
theorem DR.mono {κ' : Type} {kr : KeyR κ κ'} {r : Rep β} {G G' : Hp} {kvs : List (κ' × V)} {kbs : List (κ × β)} (s : Sub G G') (h : DR kr r K G kvs kbs) : DR kr r K G' kvs kbs := A2.mono h fun _ _ h => ⟨h.1, r.mono s h.2⟩
/-- a dict keyed by tuples of numbers; by numbers -/
def oD (r : Rep β) : ORep (List (List Int × β)) := ⟨fun K G ho kbs => ∃ kvs, ho = .dT kvs ∧ DR kTup r K G kvs kbs, fun s ⟨kvs, h1, h2⟩ => ⟨kvs, h1, h2.mono s⟩⟩
/-- a dict that can be asked -/
structure DAsk (q : ORep (List (κ × β))) (rk : Rep κ) (r : Rep β) [DecidableEq κ] : Prop where
  get : ∀ {K G H L ho kbs k a}, Sub G H → H L = some ho → q.rel K G ho kbs → rk.rel K G k a → ∃ o, DGet H L k o ∧ match dget kbs a with
    | none => o = none
    | some b => ∃ v, o = some v ∧ r.rel K G v b
theorem key_tup {G H : Hp} {k : V} {a : List Int} (s : Sub G H) (h : (rT rI).rel K G k a) : ∃ b, k = .ref b ∧ H b = some (.tup ((kTup.f a).map kV)) := by
  obtain ⟨L, ho, rfl, h2, vs, rfl, h4⟩ := h
  refine ⟨L, rfl, ?_⟩
  rw [s _ _ h2, ints_of h4]
  show _ = some (HO.tup ((a.map Sum.inl).map kV))
  rw [List.map_map]
  rfl
theorem ask_D {r : Rep β} : DAsk (oD r) (rT rI) r := ⟨fun {K G H L ho kbs k a} s h ⟨kvs, h1, h2⟩ hk => by
  subst h1
  obtain ⟨b, rfl, hb⟩ := key_tup s hk
  refine ⟨_, .t h hb, ?_⟩
  have := h2.get a
  revert this
  cases dget kbs a <;> exact id⟩
variable [DecidableEq κ] {q : ORep (List (κ × β))} {rk : Rep κ} {r : Rep β} {M : Mx} {R : ERep ε}
def dIn (k : κ) (kbs : List (κ × β)) : Option Bool := some (dget kbs k).isSome
def dNin (k : κ) (kbs : List (κ × β)) : Option Bool := some (!(dget kbs k).isSome)
theorem x_din {ty td : TE} {m : ε → Rs ε κ} {n : ε → Rs ε (List (κ × β))} (ask : DAsk q rk r) (h : EX M R ty (fz rk) m) (k : EX M R td (is (rd q)) n) : EX M R (tDIn ty td) (fz rB) (mOp dIn m n) :=
  x_op (t := ty) (u := td) (T := fun (y x : V) (H2 : Hp) (Q : VK) => ∃ a o, x = .ref a ∧ DGet H2 a y o ∧ Q (.bl o.isSome) H2) (r := rk) (i1' := ir rk) (s := rd q) (g := dIn) (fun G H v w a b c Q s h1 ⟨L, ho, h2, h3, h4⟩ hg k => by
    cases hg; subst h2
    obtain ⟨o, ho1, ho2⟩ := ask.get s h3 h4 h1
    refine ⟨L, o, rfl, ho1, k _ G H (.refl s) ?_⟩
    revert ho2
    cases dget b a with
    | none => rintro rfl; rfl
    | some x => rintro ⟨v, rfl, _⟩; rfl) Cv.id h k
/-- d.get(k, x) -/
def mDGet2 (l : Ln ε (List (κ × β))) (m : ε → Rs ε κ) (x : ε → Rs ε β) : ε → Rs ε β := fun e => match l.get e with
  | none => .bad
  | some _ => (m e).bind fun a e1 => (x e1).bind fun b e2 => (mVar l e2).bind fun kbs e3 => .ok ((dget kbs a).getD b) e3
/-- d[k] = v -/
def gDPut (kbs : List (κ × β)) (k : κ) (b : β) : Option (List (κ × β)) := if kbs.length < 1000000 then some (dput kbs k b) else none
theorem v_dput {r : Rep β} : VS K rSetD (oD r) (rT rI) r gDPut := fun G H L ho st i x v y st' Q s h1 h2 ⟨kvs, h3, h4⟩ h5 h6 hg k => by
  subst h3
  obtain ⟨hz, rfl⟩ := of_ite hg
  obtain ⟨b, rfl, hb⟩ := key_tup s h5
  exact ⟨L, _, rfl, .inr ⟨kvs, _, b, h1, rfl, hb, by rw [A2.length h4, sizeLine_eq]; omega, rfl⟩, k _ ⟨_, rfl, h4.put h6⟩⟩
theorem x_dnew {r : Rep β} : EX M R tDNewT (fs (oD r)) (mC []) := fun F G H σ e i hR Q p L hL => (Post.finF i hR p) L _ G _ (.own i.gh hL) hL (i.gh.no hL) upd_same ⟨[], rfl, .nil⟩
def keysOf (kbs : List (κ × β)) : List κ := kbs.map (·.1)
def mKeys (l : Ln ε (List (κ × β))) : ε → Rs ε (List κ) := fun e => (mVar l e).bind fun kbs e1 => .ok (keysOf kbs) e1
def mLock (l : Ln ε γ) (m : ε → Rs ε α) : ε → Rs ε α := fun e => match l.get e with
  | none => .bad
  | some x => match m (l.put (some x) e) with
    | .ok a e1 => .ok a (l.put (some x) (l.put none e1))
    | _ => .bad
/-- a list of one's own, walked: it stays meanwhile -/
theorem x_iLP {n : Nat} {l : Ln ε (List α)} {r : Rep α} (at' : PrAt R n (oL r) l) : EX M R (iList M.K (tVar n)) (walkS r) (mVar l) := fun F G H σ e i hR Q p => by
  obtain ⟨a, ha, p2⟩ := of_some p
  obtain ⟨L, ho, h1, h2, vs, rfl, h5⟩ := at'.rd hR ha
  have q : ∀ {G2 H2 : Hp}, IV F G2 H2 → SqL M.K H2 L vs := fun i2 => .inl (.inl (i2.ys _ _ h2))
  refine ⟨.ref L, h1, L, rfl, ⟨vs, q i⟩, p2 _ G H H i .refl ⟨fun k G2 H2 i2 s2 => ?_, rfl⟩ hR⟩
  refine ⟨fun hk => ⟨vs, q i2, by rw [h5.length]; exact hk⟩, fun x hx => ?_⟩
  obtain ⟨v, hv, hr⟩ := h5.get hx
  refine ⟨⟨vs, v, q i2, hv⟩, fun v' H'' hy => ?_⟩
  obtain ⟨rfl, hy⟩ := hy
  have := hy vs (q i2)
  rw [hv] at this
  cases this
  exact ⟨G2, .refl i2.gh, r.mono s2 hr⟩
theorem x_prot {n : Nat} {R' : ERep ε} {own : Frm → Addr → Prop} {l : Ln ε γ} {q : ORep γ} {t : TE} {q2 : ORep α} {m : ε → Rs ε α} (oq : OwnQ own) (at' : OwAt R n own q l) (sw : Sw R R' n q l) (h : EX M R' t (fs q2) m) :
    EX M R t (fs q2) (mLock l m) := fun F G H σ e i hR Q p => by
  unfold mLock at p
  cases h0 : l.get e with
  | none => rw [h0] at p; exact p.elim
  | some x =>
    rw [h0] at p
    obtain ⟨L, ho, h1, h2, h3, h4, h5, h6⟩ := at'.rd hR h0
    obtain ⟨o1, o2, o3⟩ := oq F L h4
    have iv : IV (F.lockY L ho) G H := ⟨i.gh, i.g0, i.new, i.fr, i.al, i.xs, i.xg, upd_sub i.ys h2, fun b hb => (upd_some hb).elim (fun z => z ▸ h3) (i.yg b), i.tp⟩
    refine h (F.lockY L ho) G _ σ _ iv (sw.to (ho := ho) h6 h1 h5) _ ?_
    revert p
    dsimp only
    cases m (l.put (some x) e) with
    | bad => exact id
    | ex c e1 => exact fun p => p.elim
    | ok a e1 =>
      rintro p v G' H' H1 iv' s' ⟨L', ho', rfl, b1, b2, b3, b4, rfl⟩ R1
      have hL : H' L = some ho := iv'.ys _ _ upd_same
      have gL : G' L = none := iv'.yg _ (by show upd F.Y L _ L ≠ none; rw [upd_same]; intro z; cases z)
      have ne : L' ≠ L := fun z => by
        have := b3.2.2
        rw [z] at this
        exact nomatch (show some ho = none from upd_same.symm.trans this)
      have iF : IV F G' H' := ⟨iv'.gh, iv'.g0, iv'.new, iv'.fr, iv'.al, iv'.xs, iv'.xg, (sub_upd o3).trans iv'.ys, fun b hb => iv'.yg b ((sub_upd o3).ne hb), iv'.tp⟩
      refine p (.ref L') G' H' (hide H' L') iF s' ⟨L', ho', rfl, b1, b2, ⟨b3.1, b3.2.1, ?_⟩, b4, rfl⟩ ?_
      · exact (upd_ne ne).symm.trans b3.2.2
      · refine at'.bk (L := L) (ho := ho) ?_ h1 (by rw [hide_ne ne.symm]; exact hL) gL h4 (q.mono s' h5)
        rw [hide_comm]
        have := sw.bk R1
        rw [hide_comm] at this
        exact this
theorem x_powc {a b n : Int} (h : gPow a b = some n) : EX M R (tOp rPow (tC (.int a)) (tC (.int b))) (fz rI) (mC n) := fun F G H σ e i hR Q p =>
  v_pow (K := M.K) G H _ _ a b n Q i.gh rfl rfl h (Post.fin i hR p)
theorem nt_D {r : Rep β} : NT (oD r) := fun K G ho a ⟨_, h, _⟩ xs e => by rw [h] at e; cases e
theorem mt_ins {X : Cx} : MtR X "list.insert" rIns := mt_insert
theorem units1 {k : Nat} {A : PySem.Around} (r : Room k A) : A.units + 1 < PySem.cLine := by have := r.un; omega
def cx0 : Str → Addr := fun _ => 0
/-- never None -/
def NN (r : Rep α) : Prop := ∀ K G v a, r.rel K G v a → v ≠ .non
theorem nn_z {q : ORep α} : NN (rz q) := fun K G v a ⟨L, ho, h, _⟩ => by rw [h]; intro z; cases z
def mSome (m : ε → Rs ε α) : ε → Rs ε (Option α) := fun e => (m e).bind fun a e1 => .ok (some a) e1
def mNone (m : ε → Rs ε Unit) : ε → Rs ε (Option α) := fun e => (m e).bind fun _ e1 => .ok none e1
theorem x_some {t : TE} {r : Rep α} {m : ε → Rs ε α} (nn : NN r) (h : EX M R t (fz r) m) : EX M R t (fz (rO r)) (mSome m) := fun F G H σ e i hR Q p =>
  h F G H σ e i hR _ (p.bind fz_h fun v a e1 G1 H1 i1 s1 R1 r1 p1 => p1 v G1 H1 H1 i1 .refl ⟨⟨nn _ _ _ _ r1.1, r1.1⟩, rfl⟩ R1)
theorem x_none {t : TE} {r : Rep α} {m : ε → Rs ε Unit} (h : EX M R t (fz rN) m) : EX M R t (fz (rO r)) (mNone m) := fun F G H σ e i hR Q p =>
  h F G H σ e i hR _ (p.bind fz_h fun v a e1 G1 H1 i1 s1 R1 r1 p1 => p1 v G1 H1 H1 i1 .refl ⟨r1.1, rfl⟩ R1)
end
section
variable {ε ε' α β γ ρ ι κ : Type}
/-- it comes to an end well, and Q holds of what it gives -/
def RsP0 (x : Rs ε α) (Q : α → ε → Prop) : Prop := match x with
  | .ok a e => Q a e | .ex _ _ => False | .bad => False
def SoP0 (x : So ε ρ) (N C B : ε → Prop) (T : ρ → ε → Prop) : Prop := match x with
  | .nx e => N e | .ct e => C e | .bk e => B e | .rt a e => T a e | .ex _ _ => False | .bad => False
def OpP0 (x : Option α) (Q : α → Prop) : Prop := match x with
  | some a => Q a | none => False
variable {Q : α → ε → Prop} {N C B : ε → Prop} {T : ρ → ε → Prop} {a : α} {e : ε}
theorem RsP0.imp {x : Rs ε α} {P Q : α → ε → Prop} (h : RsP0 x P) (k : ∀ a e, P a e → Q a e) : RsP0 x Q := by
  cases x with
  | ok a e => exact k a e h
  | ex c e => exact h
  | bad => exact h
theorem RsP0.ex {x : Rs ε α} (h : RsP0 x Q) : ∃ a e, x = .ok a e ∧ Q a e := by
  cases x with
  | ok a e => exact ⟨a, e, rfl, h⟩
  | ex c e => exact h.elim
  | bad => exact h.elim
theorem RsP0.of_eq {x : Rs ε α} (h : x = .ok a e) (q : Q a e) : RsP0 x Q := by rw [h]; exact q
theorem SoP0.imp {x : So ε ρ} {N N' C C' B B' : ε → Prop} {T T' : ρ → ε → Prop} (h : SoP0 x N C B T) (n : ∀ e, N e → N' e) (c : ∀ e, C e → C' e) (b : ∀ e, B e → B' e) (t : ∀ a e, T a e → T' a e) : SoP0 x N' C' B' T' := by
  cases x with
  | nx e => exact n e h
  | ct e => exact c e h
  | bk e => exact b e h
  | rt a e => exact t a e h
  | ex _ _ => exact h
  | bad => exact h
theorem rp_ok_0 : RsP0 (.ok a e) Q = Q a e := propext ⟨fun h => h, fun h => h⟩
theorem rp_bad_0 : RsP0 (.bad : Rs ε α) Q = False := propext ⟨fun h => h, fun h => h⟩
theorem rp_of_0 {o : Option α} : RsP0 (.of o e) Q = OpP0 o fun a => Q a e := by cases o <;> rfl
theorem op_some_0 {Q : α → Prop} : OpP0 (some a) Q = Q a := propext ⟨fun h => h, fun h => h⟩
theorem op_ite_0 {c : Prop} [Decidable c] {o : Option α} {Q : α → Prop} : OpP0 (if c then o else none) Q = (c ∧ OpP0 o Q) := by
  by_cases h : c
  · simp [h, OpP0]
  · simp [h, OpP0]
theorem rp_bind_0 {x : Rs ε β} {f : β → ε → Rs ε α} : RsP0 (x.bind f) Q = RsP0 x fun b e1 => RsP0 (f b e1) Q := by cases x <;> rfl
theorem rp_bindN_0 {x : Rs ε β} {f : β → ε → Rs ε α} : RsP0 (x.bindN f) Q = RsP0 x fun b e1 => RsP0 (f b e1) Q := by cases x <;> rfl
theorem rp_run_0 {x : Rs Unit α} : RsP0 (x.run e) Q = RsP0 x fun b _ => Q b e := by cases x <;> rfl
theorem rp_ite_0 {c : Prop} [Decidable c] {x y : Rs ε α} : RsP0 (if c then x else y) Q = if c then RsP0 x Q else RsP0 y Q := by split <;> rfl
theorem sp_nx_0 : SoP0 (.nx e : So ε ρ) N C B T = N e := propext ⟨fun h => h, fun h => h⟩
theorem sp_ct_0 : SoP0 (.ct e : So ε ρ) N C B T = C e := propext ⟨fun h => h, fun h => h⟩
theorem sp_bk_0 : SoP0 (.bk e : So ε ρ) N C B T = B e := propext ⟨fun h => h, fun h => h⟩
theorem sp_rt_0 {r : ρ} : SoP0 (.rt r e) N C B T = T r e := propext ⟨fun h => h, fun h => h⟩
theorem sp_so_0 {x : Rs ε α} {f : α → ε → So ε ρ} : SoP0 (x.so f) N C B T = RsP0 x fun a e1 => SoP0 (f a e1) N C B T := by cases x <;> rfl
theorem sp_ite_0 {c : Prop} [Decidable c] {x y : So ε ρ} : SoP0 (if c then x else y) N C B T = if c then SoP0 x N C B T else SoP0 y N C B T := by split <;> rfl
theorem sp_seq_0 {m n : ε → So ε ρ} : SoP0 (mSeq m n e) N C B T = SoP0 (m e) (fun e1 => SoP0 (n e1) N C B T) C B T := by unfold mSeq; cases m e <;> rfl
theorem sp_kill_0 {k : ε → ε} {m : ε → So ε ρ} : SoP0 (mKill k m e) N C B T = SoP0 (m e) (fun e1 => N (k e1)) (fun e1 => C (k e1)) (fun e1 => B (k e1)) T := by unfold mKill; cases m e <;> rfl
theorem sp_for_0 {m : ε → Rs ε (List α)} {pt : α → ε → ε} {b : ε → So ε ρ} : SoP0 (mFor m pt b e) N C B T = RsP0 (m e) fun xs e1 => SoP0 (mLoop (fun x e => b (pt x e)) xs e1) N C B T := by unfold mFor; rw [sp_so_0]
theorem sp_ret_0 {m : ε → Rs ε ρ} : SoP0 (mRet m e) N C B T = RsP0 (m e) T := by unfold mRet; rw [sp_so_0]; rfl
theorem sp_drop_0 {m : ε → Rs ε α} : SoP0 (mDrop m e : So ε ρ) N C B T = RsP0 (m e) fun _ e1 => N e1 := by unfold mDrop; rw [sp_so_0]; rfl
theorem sp_set_0 {l : Ln ε α} {m : ε → Rs ε α} : SoP0 (mSet l m e : So ε ρ) N C B T = RsP0 (m e) fun a e1 => N (l.put (some a) e1) := by unfold mSet; rw [sp_so_0]; rfl
theorem sp_asgN_0 {m : ε → Rs ε α} {pt : α → ε → ε} : SoP0 (mAsgN m pt e : So ε ρ) N C B T = RsP0 (m e) fun a e1 => N (pt a e1) := by unfold mAsgN; rw [sp_so_0]; rfl
theorem sp_if_0 {c : ε → Rs ε Bool} {m n : ε → So ε ρ} : SoP0 (mIfS c m n e) N C B T = RsP0 (c e) fun b e1 => if b = true then SoP0 (m e1) N C B T else SoP0 (n e1) N C B T := by
  unfold mIfS; rw [sp_so_0]; congr; funext b e1; exact sp_ite_0
theorem sp_next_0 : SoP0 (mNext e : So ε ρ) N C B T = N e := propext ⟨fun h => h, fun h => h⟩
theorem sp_mbk_0 : SoP0 (mBrk e : So ε ρ) N C B T = B e := propext ⟨fun h => h, fun h => h⟩
theorem sp_mct_0 : SoP0 (mCt e : So ε ρ) N C B T = C e := propext ⟨fun h => h, fun h => h⟩
theorem rp_un_0 {g : β → Option α} {m : ε → Rs ε β} : RsP0 (mUn g m e) Q = RsP0 (m e) fun b e1 => OpP0 (g b) fun a => Q a e1 := by unfold mUn; rw [rp_bind_0]; congr; funext b e1; exact rp_of_0
theorem rp_op_0 {g : β → γ → Option α} {m : ε → Rs ε β} {n : ε → Rs ε γ} : RsP0 (mOp g m n e) Q = RsP0 (m e) fun b e1 => RsP0 (n e1) fun c e2 => OpP0 (g b c) fun a => Q a e2 := by
  unfold mOp; rw [rp_bind_0]; congr; funext b e1; rw [rp_bind_0]; congr; funext c e2; exact rp_of_0
theorem rp_var_0 {l : Ln ε α} : RsP0 (mVar l e) Q = OpP0 (l.get e) fun a => Q a e := rp_of_0
theorem rp_move_0 {l : Ln ε α} : RsP0 (mMove l e) Q = OpP0 (l.get e) fun a => Q a (l.put none e) := rp_of_0
theorem rp_c_0 {a : α} : RsP0 (mC a e) Q = Q a e := propext ⟨fun h => h, fun h => h⟩
theorem rp_opL_0 {g : β → γ → Option α} {l : Ln ε β} {m : ε → Rs ε γ} : RsP0 (mOpL g l m e) Q = OpP0 (l.get e) fun _ => RsP0 (m e) fun c e1 => OpP0 (l.get e1) fun b => OpP0 (g b c) fun a => Q a e1 := by
  unfold mOpL
  cases l.get e with
  | none => rfl
  | some x =>
    simp only [rp_bind_0, OpP0]
    congr; funext c e1; rw [rp_var_0]; congr; funext b; exact rp_of_0
theorem rp_pair_0 {m : ε → Rs ε α} {n : ε → Rs ε β} {Q : α × β → ε → Prop} : RsP0 (mPair m n e) Q = RsP0 (m e) fun a e1 => RsP0 (n e1) fun b e2 => Q (a, b) e2 := by unfold mPair; rw [rp_bind_0]; congr; funext a e1; rw [rp_bind_0]; rfl
theorem rp_pairL_0 {l : Ln ε α} {n : ε → Rs ε β} {Q : α × β → ε → Prop} : RsP0 (mPairL l n e) Q = OpP0 (l.get e) fun _ => RsP0 (n e) fun b e1 => OpP0 (l.get e1) fun a => Q (a, b) e1 := by
  unfold mPairL
  cases l.get e with
  | none => rfl
  | some x =>
    simp only [rp_bind_0, OpP0]
    congr; funext c e1; rw [rp_var_0]; rfl
theorem rp_cons_0 {m : ε → Rs ε α} {n : ε → Rs ε (List α)} {Q : List α → ε → Prop} : RsP0 (mCons m n e) Q = RsP0 (m e) fun a e1 => RsP0 (n e1) fun b e2 => Q (a :: b) e2 := by unfold mCons; rw [rp_bind_0]; congr; funext a e1; rw [rp_bind_0]; rfl
theorem rp_call_0 {f : β → Rs Unit α} {m : ε → Rs ε β} : RsP0 (mCall f m e) Q = RsP0 (m e) fun b e1 => RsP0 (f b) fun a _ => Q a e1 := by unfold mCall; rw [rp_bind_0]; congr; funext b e1; exact rp_run_0
theorem rp_callI_0 {l : Ln ε ι} {f : ι → β → Rs ι α} {m : ε → Rs ε β} : RsP0 (mCallI l f m e) Q = OpP0 (l.get e) fun _ => RsP0 (m e) fun b e1 => OpP0 (l.get e1) fun s => RsP0 (f s b) fun a s' => Q a (l.put (some s') (l.put none e1)) := by
  unfold mCallI
  cases l.get e with
  | none => rfl
  | some x =>
    simp only [rp_bind_0, OpP0]
    congr; funext b e1
    cases l.get e1 with
    | none => rfl
    | some s => cases h : f s b <;> simp only [h] <;> rfl
theorem rp_bm_0 {l : Ln ε ι} {g : ι → β → Option (α × ι)} {m : ε → Rs ε β} : RsP0 (mBM l g m e) Q = OpP0 (l.get e) fun _ => RsP0 (m e) fun b e1 => OpP0 (l.get e1) fun s => OpP0 (g s b) fun p => Q p.1 (l.put (some p.2) (l.put none e1)) := by
  unfold mBM
  cases l.get e with
  | none => rfl
  | some x =>
    simp only [rp_bind_0, OpP0]
    congr; funext b e1
    cases l.get e1 with
    | none => rfl
    | some s => cases h : g s b <;> simp only [h] <;> rfl
theorem rp_bm0_0 {l : Ln ε ι} {g : ι → Unit → Option (α × ι)} : RsP0 (mBM0 l g e) Q = OpP0 (l.get e) fun _ => OpP0 (l.get e) fun s => OpP0 (g s ()) fun p => Q p.1 (l.put (some p.2) (l.put none e)) := rp_bm_0
theorem sp_setI_0 {l : Ln ε γ} {g : γ → α → β → Option γ} {mi : ε → Rs ε α} {m : ε → Rs ε β} : SoP0 (mSetI l g mi m e : So ε ρ) N C B T = RsP0 (m e) fun y e1 => OpP0 (l.get e1) fun _ => RsP0 (mi e1) fun x e2 => OpP0 (l.get e2) fun s => OpP0 (g s x y) fun s' => N (l.put (some s') (l.put none e2)) := by
  unfold mSetI
  rw [sp_so_0]; congr; funext y e1
  cases l.get e1 with
  | none => rfl
  | some s =>
    simp only [sp_so_0, OpP0]
    congr; funext x e2
    cases l.get e2 with
    | none => rfl
    | some s => cases h : g s x y <;> simp only [h] <;> rfl
theorem rp_not_0 {m : ε → Rs ε Bool} {Q : Bool → ε → Prop} : RsP0 (mNot m e) Q = RsP0 (m e) fun b e1 => Q (!b) e1 := by unfold mNot; rw [rp_bind_0]; rfl
theorem rp_and_0 {m n : ε → Rs ε Bool} {Q : Bool → ε → Prop} : RsP0 (mAnd m n e) Q = RsP0 (m e) fun b e1 => if b = true then RsP0 (n e1) Q else Q false e1 := by unfold mAnd; rw [rp_bind_0]; congr; funext b e1; exact rp_ite_0
theorem rp_or_0 {m n : ε → Rs ε Bool} {Q : Bool → ε → Prop} : RsP0 (mOr m n e) Q = RsP0 (m e) fun b e1 => if b = true then Q true e1 else RsP0 (n e1) Q := by unfold mOr; rw [rp_bind_0]; congr; funext b e1; exact rp_ite_0
theorem rp_if_0 {c : ε → Rs ε Bool} {m n : ε → Rs ε α} : RsP0 (mIf c m n e) Q = RsP0 (c e) fun b e1 => if b = true then RsP0 (m e1) Q else RsP0 (n e1) Q := by unfold mIf; rw [rp_bind_0]; congr; funext b e1; exact rp_ite_0
theorem rp_chain_0 {g : α → β → Option Bool} {g' : β → γ → Option Bool} {m : ε → Rs ε α} {n : ε → Rs ε β} {k : ε → Rs ε γ} {Q : Bool → ε → Prop} : RsP0 (mChain g g' m n k e) Q = RsP0 (m e) fun a e1 => RsP0 (n e1) fun b e2 => OpP0 (g a b) fun c => if c = true then RsP0 (k e2) fun d e3 => OpP0 (g' b d) fun z => Q z e3 else Q false e2 := by
  unfold mChain
  rw [rp_bind_0]; congr; funext a e1; rw [rp_bind_0]; congr; funext b e2; rw [rp_bind_0, rp_of_0]; congr; funext c; rw [rp_ite_0, rp_bind_0]
  split
  · congr; funext d e3; exact rp_of_0
  · rfl
theorem rp_mSome_0 {m : ε → Rs ε α} {Q : Option α → ε → Prop} : RsP0 (mSome m e) Q = RsP0 (m e) fun a e1 => Q (some a) e1 := by unfold mSome; rw [rp_bind_0]; rfl
theorem rp_mNone_0 {m : ε → Rs ε Unit} {Q : Option α → ε → Prop} : RsP0 (mNone m e) Q = RsP0 (m e) fun a e1 => Q none e1 := by unfold mNone; rw [rp_bind_0]; rfl
theorem rp_part_0 {m : ε → Rs ε Int} {Q : Option Int → ε → Prop} : RsP0 (mPart m e) Q = RsP0 (m e) fun a e1 => Q (some a) e1 := by unfold mPart; rw [rp_bind_0]; rfl
theorem rp_sl_0 {g : β → Option Int → Option Int → Option α} {m : ε → Rs ε β} {lo hi : ε → Rs ε (Option Int)} : RsP0 (mSl g m lo hi e) Q = RsP0 (m e) fun b e1 => RsP0 (lo e1) fun l e2 => RsP0 (hi e2) fun u e3 => OpP0 (g b l u) fun a => Q a e3 := by
  unfold mSl
  rw [rp_bind_0]; congr; funext b e1; rw [rp_bind_0]; congr; funext l e2; rw [rp_bind_0]; congr; funext u e3; exact rp_of_0
theorem rp_slL_0 {g : β → Option Int → Option Int → Option α} {l : Ln ε β} {lo hi : ε → Rs ε (Option Int)} : RsP0 (mSlL g l lo hi e) Q = OpP0 (l.get e) fun _ => RsP0 (lo e) fun l1 e2 => RsP0 (hi e2) fun u e3 => OpP0 (l.get e3) fun b => OpP0 (g b l1 u) fun a => Q a e3 := by
  unfold mSlL
  cases l.get e with
  | none => rfl
  | some x =>
    simp only [rp_bind_0, OpP0]
    congr; funext l1 e2; congr; funext u e3; rw [rp_var_0]; congr; funext b; exact rp_of_0
theorem rp_rng1_0 {m : ε → Rs ε Int} {Q : List Int → ε → Prop} : RsP0 (mRng1 m e) Q = RsP0 (m e) fun n e1 => bigI n = true ∧ Q (rng 0 n) e1 := by
  unfold mRng1; rw [rp_bind_0]; congr; funext n e1; rw [rp_ite_0]
  by_cases h : bigI n = true
  · simp [h, rp_ok_0]
  · simp [h, rp_bad_0]
theorem rp_rng2_0 {m : ε → Rs ε (Int × Int)} {Q : List Int → ε → Prop} : RsP0 (mRng2 m e) Q = RsP0 (m e) fun n e1 => (bigI n.1 = true ∧ bigI n.2 = true) ∧ Q (rng n.1 n.2) e1 := by
  unfold mRng2; rw [rp_bind_0]; congr; funext n e1; rw [rp_ite_0]
  by_cases h : bigI n.1 = true ∧ bigI n.2 = true
  · simp [h, rp_ok_0]
  · simp [h, rp_bad_0]
theorem rp_enum_0 {m : ε → Rs ε (List α)} {Q : List (Int × α) → ε → Prop} : RsP0 (mEnum m e) Q = RsP0 (m e) fun xs e1 => Q (enumF xs) e1 := by unfold mEnum; rw [rp_bind_0]; rfl
theorem rp_lock_0 {l : Ln ε γ} {m : ε → Rs ε α} : RsP0 (mLock l m e) Q = OpP0 (l.get e) fun x => RsP0 (m (l.put (some x) e)) fun a e1 => Q a (l.put (some x) (l.put none e1)) := by
  unfold mLock
  cases l.get e with
  | none => rfl
  | some x => simp only [OpP0]; cases m (l.put (some x) e) <;> rfl
theorem rp_dget2_0 [DecidableEq κ] {l : Ln ε (List (κ × β))} {m : ε → Rs ε κ} {x : ε → Rs ε β} {Q : β → ε → Prop} : RsP0 (mDGet2 l m x e) Q = OpP0 (l.get e) fun _ => RsP0 (m e) fun a e1 => RsP0 (x e1) fun b e2 => OpP0 (l.get e2) fun kbs => Q ((dget kbs a).getD b) e2 := by
  unfold mDGet2
  cases l.get e with
  | none => rfl
  | some y =>
    simp only [rp_bind_0, OpP0]
    congr; funext a e1; congr; funext b e2; rw [rp_var_0]; rfl
theorem rp_keys_0 {l : Ln ε (List (κ × β))} {Q : List κ → ε → Prop} : RsP0 (mKeys l e) Q = OpP0 (l.get e) fun kbs => Q (keysOf kbs) e := by unfold mKeys; rw [rp_bind_0, rp_var_0]; rfl
theorem rp_lc_0 {it : ε → Rs ε (List α)} {pt : α → ε → ε} {tt : ε → Rs ε Bool} {te : ε → Rs ε β} {kill : ε → ε} {rst : ε → ε → ε} {Q : List β → ε → Prop} : RsP0 (mLc it pt tt te kill rst e) Q = RsP0 (it e) fun xs e1 => xs.length ≤ 1000000 ∧ RsP0 (lcR pt tt te kill xs (kill e1) []) fun ys e2 => Q ys (rst e1 e2) := by
  unfold mLc; rw [rp_bind_0]; congr; funext xs e1; rw [rp_ite_0]
  by_cases h : xs.length ≤ 1000000
  · simp only [h, if_true, true_and, rp_bind_0]; rfl
  · simp [h, rp_bad_0]
theorem rp_yes_0 {Q : Bool → ε → Prop} : RsP0 (mYes e) Q = Q true e := propext ⟨fun h => h, fun h => h⟩
theorem iteI {c : Prop} {inst : Decidable c} {A B : Prop} (h1 : c → A) (h2 : ¬ c → B) : @ite Prop c inst A B := by
  by_cases h : c
  · rw [if_pos h]; exact h1 h
  · rw [if_neg h]; exact h2 h
theorem rp_runD_0 {x : So ε ρ} {Q : ρ → Unit → Prop} : RsP0 (x.run none) Q = SoP0 x (fun _ => False) (fun _ => False) (fun _ => False) fun a _ => Q a () := by cases x <;> rfl
theorem rp_runDS_0 {x : So ε ρ} {d : ρ} {Q : ρ → Unit → Prop} : RsP0 (x.run (some d)) Q = SoP0 x (fun _ => Q d ()) (fun _ => False) (fun _ => False) fun a _ => Q a () := by cases x <;> rfl
theorem rp_runI_0 {x : So ε ρ} {l : Ln ε ι} {Q : ρ → ι → Prop} : RsP0 (x.runI l none) Q = SoP0 x (fun _ => False) (fun _ => False) (fun _ => False) fun a e => OpP0 (l.get e) fun s => Q a s := by
  unfold So.runI
  cases x with
  | rt a e => simp only [sp_rt_0]; cases h : l.get e <;> simp only [h] <;> rfl
  | nx e => simp only [sp_nx_0]; cases h : l.get e <;> simp only [h] <;> rfl
  | ex c e => cases h : l.get e <;> simp only [h] <;> rfl
  | bk e => rfl
  | ct e => rfl
  | bad => rfl
theorem rp_runIS_0 {x : So ε ρ} {l : Ln ε ι} {d : ρ} {Q : ρ → ι → Prop} : RsP0 (x.runI l (some d)) Q = SoP0 x (fun e => OpP0 (l.get e) fun s => Q d s) (fun _ => False) (fun _ => False) fun a e => OpP0 (l.get e) fun s => Q a s := by
  unfold So.runI
  cases x with
  | rt a e => simp only [sp_rt_0]; cases h : l.get e <;> simp only [h] <;> rfl
  | nx e => simp only [sp_nx_0]; cases h : l.get e <;> simp only [h] <;> rfl
  | ex c e => cases h : l.get e <;> simp only [h] <;> rfl
  | bk e => rfl
  | ct e => rfl
  | bad => rfl
/-- a word between a statement and the rest -/
theorem cutP_0 {m n : ε → So ε ρ} (Mid : ε → Prop) (h1 : SoP0 (m e) Mid C B T) (h2 : ∀ e1, Mid e1 → SoP0 (n e1) N C B T) : SoP0 (mCut m n e) N C B T := by
  unfold mCut
  rw [sp_seq_0]
  exact h1.imp h2 (fun _ h => h) (fun _ h => h) fun _ _ h => h
/-- a loop by what holds ahead of each turn -/
theorem loopP_0 {b : α → ε → So ε ρ} {xs : List α} {e : ε} (P : Nat → ε → Prop) (h0 : P 0 e) (hs : ∀ i x e, xs[i]? = some x → P i e → SoP0 (b x e) (P (i + 1)) (P (i + 1)) N T) (hd : ∀ e, P xs.length e → N e) : SoP0 (mLoop b xs e) N C B T := by
  suffices h : ∀ (ys : List α) (i : Nat) (e : ε), (∀ j x, ys[j]? = some x → xs[i + j]? = some x) → i + ys.length = xs.length → P i e → SoP0 (mLoop b ys e) N C B T from h xs 0 e (fun j x h => by simpa using h) (by simp) h0
  intro ys
  induction ys with
  | nil => intro i e _ hl p; exact hd e (by simp at hl; rw [← hl]; exact p)
  | cons y ys ih =>
    intro i e hx hl p
    have h1 := hs i y e (by simpa using hx 0 y rfl) p
    unfold mLoop
    revert h1
    cases b y e with
    | nx e1 => exact fun h1 => ih (i + 1) e1 (fun j x h => by rw [Nat.add_assoc, Nat.add_comm 1 j]; exact hx (j + 1) x (by simpa using h)) (by simp at hl; omega) h1
    | ct e1 => exact fun h1 => ih (i + 1) e1 (fun j x h => by rw [Nat.add_assoc, Nat.add_comm 1 j]; exact hx (j + 1) x (by simpa using h)) (by simp at hl; omega) h1
    | bk e1 => exact id
    | rt a e1 => exact id
    | ex c e1 => exact id
    | bad => exact id
/-- a loop over a range -/
theorem loopR_0 {b : Int → ε → So ε ρ} {n : Nat} {hi : Int} {e : ε} (hn : hi = (n : Int)) (P : Nat → ε → Prop) (h0 : P 0 e) (hs : ∀ (i : Nat) e, i < n → P i e → SoP0 (b (i : Int) e) (P (i + 1)) (P (i + 1)) N T) (hd : ∀ e, P n e → N e) : SoP0 (mLoop b (rng 0 hi) e) N C B T := by
  subst hn
  refine loopP_0 P h0 (fun i x e hx p => ?_) (fun e p => hd e ?_)
  · obtain ⟨h1, h2⟩ := rng_get hx
    rw [h2, Int.zero_add]
    exact hs i e (by omega) p
  · rw [rng_length] at p
    simpa using p
/-- whose turns change nothing -/
theorem lcP_0 {pt : α → ε → ε} {tt : ε → Rs ε Bool} {te : ε → Rs ε β} {kill : ε → ε} {xs : List α} {e : ε} {Q : List β → ε → Prop} (p : α → Bool) (f : α → β)
    (h : ∀ x ∈ xs, RsP0 (tt (pt x e)) fun b e1 => b = p x ∧ if p x = true then RsP0 (te e1) fun y e2 => y = f x ∧ kill e2 = e else kill e1 = e) (q : Q ((xs.filter p).map f) e) : RsP0 (lcR pt tt te kill xs e []) Q := by
  suffices hh : ∀ (ys : List α) (acc : List β), (∀ y ∈ ys, y ∈ xs) → lcR pt tt te kill ys e acc = .ok (acc ++ (ys.filter p).map f) e from by
    rw [hh xs [] fun _ h => h]
    exact q
  intro ys
  induction ys with
  | nil => intro acc _; simp [lcR]
  | cons y ys ih =>
    intro acc hy
    obtain ⟨b, e1, h1, rfl, h2⟩ := (h y (hy y List.mem_cons_self)).ex
    unfold lcR
    rw [h1, Rs.bindN_ok]
    by_cases hp : p y = true
    · rw [if_pos hp] at h2 ⊢
      obtain ⟨z, e2, h3, rfl, h4⟩ := h2.ex
      rw [h3, Rs.bindN_ok, h4, ih _ fun x hx => hy x (List.mem_cons_of_mem _ hx), List.filter_cons, if_pos hp]
      simp
    · rw [if_neg hp] at h2 ⊢
      rw [h2, ih _ fun x hx => hy x (List.mem_cons_of_mem _ hx), List.filter_cons, if_neg hp]
theorem lcM_0 {pt : α → ε → ε} {te : ε → Rs ε β} {kill : ε → ε} {xs : List α} {e : ε} {Q : List β → ε → Prop} (f : α → β) (h : ∀ x ∈ xs, RsP0 (te (pt x e)) fun y e2 => y = f x ∧ kill e2 = e) (q : Q (xs.map f) e) : RsP0 (lcR pt mYes te kill xs e []) Q := by
  refine lcP_0 (fun _ => true) f (fun x hx => ?_) (by rw [List.filter_eq_self.mpr (fun _ _ => rfl)]; exact q)
  simp only [rp_yes_0, if_true, true_and]
  exact h x hx
/-- it comes to an end well, and Q holds of what it gives (a thing by itself: nothing is computed where it stands) -/
inductive RsP {ε α : Type} : Rs ε α → (α → ε → Prop) → Prop
  | mk {a : α} {e : ε} {Q : α → ε → Prop} (h : Q a e) : RsP (.ok a e) Q
inductive SoP {ε ρ : Type} : So ε ρ → (ε → Prop) → (ε → Prop) → (ε → Prop) → (ρ → ε → Prop) → Prop
  | nx {e : ε} {N C B : ε → Prop} {T : ρ → ε → Prop} (h : N e) : SoP (.nx e) N C B T
  | ct {e : ε} {N C B : ε → Prop} {T : ρ → ε → Prop} (h : C e) : SoP (.ct e) N C B T
  | bk {e : ε} {N C B : ε → Prop} {T : ρ → ε → Prop} (h : B e) : SoP (.bk e) N C B T
  | rt {a : ρ} {e : ε} {N C B : ε → Prop} {T : ρ → ε → Prop} (h : T a e) : SoP (.rt a e) N C B T
inductive OpP {α : Type} : Option α → (α → Prop) → Prop
  | mk {a : α} {Q : α → Prop} (h : Q a) : OpP (some a) Q
theorem RsP_eq {x : Rs ε α} {Q : α → ε → Prop} : RsP x Q = RsP0 x Q := by
  refine propext ⟨fun h => by cases h with | mk h => exact h, fun h => ?_⟩
  cases x with
  | ok a e => exact .mk h
  | ex c e => exact h.elim
  | bad => exact h.elim
theorem SoP_eq {x : So ε ρ} {N C B : ε → Prop} {T : ρ → ε → Prop} : SoP x N C B T = SoP0 x N C B T := by
  refine propext ⟨fun h => by cases h with | nx h => exact h | ct h => exact h | bk h => exact h | rt h => exact h, fun h => ?_⟩
  cases x with
  | nx e => exact .nx h
  | ct e => exact .ct h
  | bk e => exact .bk h
  | rt a e => exact .rt h
  | ex c e => exact h.elim
  | bad => exact h.elim
theorem OpP_eq {x : Option α} {Q : α → Prop} : OpP x Q = OpP0 x Q := by
  refine propext ⟨fun h => by cases h with | mk h => exact h, fun h => ?_⟩
  cases x with
  | some a => exact .mk h
  | none => exact h.elim
theorem RsP.imp {x : Rs ε α} {P Q : α → ε → Prop} (h : RsP x P) (k : ∀ a e, P a e → Q a e) : RsP x Q := by
  simp only [RsP_eq, SoP_eq, OpP_eq] at *
  exact RsP0.imp h k
theorem RsP.ex {x : Rs ε α} (h : RsP x Q) : ∃ a e, x = .ok a e ∧ Q a e := by
  simp only [RsP_eq, SoP_eq, OpP_eq] at *
  exact RsP0.ex h
theorem RsP.of_eq {x : Rs ε α} (h : x = .ok a e) (q : Q a e) : RsP x Q := by
  simp only [RsP_eq, SoP_eq, OpP_eq] at *
  exact RsP0.of_eq h q
theorem SoP.imp {x : So ε ρ} {N N' C C' B B' : ε → Prop} {T T' : ρ → ε → Prop} (h : SoP x N C B T) (n : ∀ e, N e → N' e) (c : ∀ e, C e → C' e) (b : ∀ e, B e → B' e) (t : ∀ a e, T a e → T' a e) : SoP x N' C' B' T' := by
  simp only [RsP_eq, SoP_eq, OpP_eq] at *
  exact SoP0.imp h n c b t
theorem rp_ok : RsP (.ok a e) Q = Q a e := by
  simp only [RsP_eq, SoP_eq, OpP_eq]
  exact rp_ok_0
theorem rp_bad : RsP (.bad : Rs ε α) Q = False := by
  simp only [RsP_eq, SoP_eq, OpP_eq]
  exact rp_bad_0
theorem rp_of {o : Option α} : RsP (.of o e) Q = OpP o fun a => Q a e := by
  simp only [RsP_eq, SoP_eq, OpP_eq]
  exact rp_of_0
theorem op_some {Q : α → Prop} : OpP (some a) Q = Q a := by
  simp only [RsP_eq, SoP_eq, OpP_eq]
  exact op_some_0
theorem op_ite {c : Prop} [Decidable c] {o : Option α} {Q : α → Prop} : OpP (if c then o else none) Q = (c ∧ OpP o Q) := by
  simp only [RsP_eq, SoP_eq, OpP_eq]
  exact op_ite_0
theorem rp_bind {x : Rs ε β} {f : β → ε → Rs ε α} : RsP (x.bind f) Q = RsP x fun b e1 => RsP (f b e1) Q := by
  simp only [RsP_eq, SoP_eq, OpP_eq]
  exact rp_bind_0
theorem rp_bindN {x : Rs ε β} {f : β → ε → Rs ε α} : RsP (x.bindN f) Q = RsP x fun b e1 => RsP (f b e1) Q := by
  simp only [RsP_eq, SoP_eq, OpP_eq]
  exact rp_bindN_0
theorem rp_run {x : Rs Unit α} : RsP (x.run e) Q = RsP x fun b _ => Q b e := by
  simp only [RsP_eq, SoP_eq, OpP_eq]
  exact rp_run_0
theorem rp_ite {c : Prop} [Decidable c] {x y : Rs ε α} : RsP (if c then x else y) Q = if c then RsP x Q else RsP y Q := by
  simp only [RsP_eq, SoP_eq, OpP_eq]
  exact rp_ite_0
theorem sp_nx : SoP (.nx e : So ε ρ) N C B T = N e := by
  simp only [RsP_eq, SoP_eq, OpP_eq]
  exact sp_nx_0
theorem sp_ct : SoP (.ct e : So ε ρ) N C B T = C e := by
  simp only [RsP_eq, SoP_eq, OpP_eq]
  exact sp_ct_0
theorem sp_bk : SoP (.bk e : So ε ρ) N C B T = B e := by
  simp only [RsP_eq, SoP_eq, OpP_eq]
  exact sp_bk_0
theorem sp_rt {r : ρ} : SoP (.rt r e) N C B T = T r e := by
  simp only [RsP_eq, SoP_eq, OpP_eq]
  exact sp_rt_0
theorem sp_so {x : Rs ε α} {f : α → ε → So ε ρ} : SoP (x.so f) N C B T = RsP x fun a e1 => SoP (f a e1) N C B T := by
  simp only [RsP_eq, SoP_eq, OpP_eq]
  exact sp_so_0
theorem sp_ite {c : Prop} [Decidable c] {x y : So ε ρ} : SoP (if c then x else y) N C B T = if c then SoP x N C B T else SoP y N C B T := by
  simp only [RsP_eq, SoP_eq, OpP_eq]
  exact sp_ite_0
theorem sp_seq {m n : ε → So ε ρ} : SoP (mSeq m n e) N C B T = SoP (m e) (fun e1 => SoP (n e1) N C B T) C B T := by
  simp only [RsP_eq, SoP_eq, OpP_eq]
  exact sp_seq_0
theorem sp_kill {k : ε → ε} {m : ε → So ε ρ} : SoP (mKill k m e) N C B T = SoP (m e) (fun e1 => N (k e1)) (fun e1 => C (k e1)) (fun e1 => B (k e1)) T := by
  simp only [RsP_eq, SoP_eq, OpP_eq]
  exact sp_kill_0
theorem sp_for {m : ε → Rs ε (List α)} {pt : α → ε → ε} {b : ε → So ε ρ} : SoP (mFor m pt b e) N C B T = RsP (m e) fun xs e1 => SoP (mLoop (fun x e => b (pt x e)) xs e1) N C B T := by
  simp only [RsP_eq, SoP_eq, OpP_eq]
  exact sp_for_0
theorem sp_ret {m : ε → Rs ε ρ} : SoP (mRet m e) N C B T = RsP (m e) T := by
  simp only [RsP_eq, SoP_eq, OpP_eq]
  exact sp_ret_0
theorem sp_drop {m : ε → Rs ε α} : SoP (mDrop m e : So ε ρ) N C B T = RsP (m e) fun _ e1 => N e1 := by
  simp only [RsP_eq, SoP_eq, OpP_eq]
  exact sp_drop_0
theorem sp_set {l : Ln ε α} {m : ε → Rs ε α} : SoP (mSet l m e : So ε ρ) N C B T = RsP (m e) fun a e1 => N (l.put (some a) e1) := by
  simp only [RsP_eq, SoP_eq, OpP_eq]
  exact sp_set_0
theorem sp_asgN {m : ε → Rs ε α} {pt : α → ε → ε} : SoP (mAsgN m pt e : So ε ρ) N C B T = RsP (m e) fun a e1 => N (pt a e1) := by
  simp only [RsP_eq, SoP_eq, OpP_eq]
  exact sp_asgN_0
theorem sp_if {c : ε → Rs ε Bool} {m n : ε → So ε ρ} : SoP (mIfS c m n e) N C B T = RsP (c e) fun b e1 => if b = true then SoP (m e1) N C B T else SoP (n e1) N C B T := by
  simp only [RsP_eq, SoP_eq, OpP_eq]
  exact sp_if_0
theorem sp_next : SoP (mNext e : So ε ρ) N C B T = N e := by
  simp only [RsP_eq, SoP_eq, OpP_eq]
  exact sp_next_0
theorem sp_mbk : SoP (mBrk e : So ε ρ) N C B T = B e := by
  simp only [RsP_eq, SoP_eq, OpP_eq]
  exact sp_mbk_0
theorem sp_mct : SoP (mCt e : So ε ρ) N C B T = C e := by
  simp only [RsP_eq, SoP_eq, OpP_eq]
  exact sp_mct_0
theorem rp_un {g : β → Option α} {m : ε → Rs ε β} : RsP (mUn g m e) Q = RsP (m e) fun b e1 => OpP (g b) fun a => Q a e1 := by
  simp only [RsP_eq, SoP_eq, OpP_eq]
  exact rp_un_0
theorem rp_op {g : β → γ → Option α} {m : ε → Rs ε β} {n : ε → Rs ε γ} : RsP (mOp g m n e) Q = RsP (m e) fun b e1 => RsP (n e1) fun c e2 => OpP (g b c) fun a => Q a e2 := by
  simp only [RsP_eq, SoP_eq, OpP_eq]
  exact rp_op_0
theorem rp_var {l : Ln ε α} : RsP (mVar l e) Q = OpP (l.get e) fun a => Q a e := by
  simp only [RsP_eq, SoP_eq, OpP_eq]
  exact rp_var_0
theorem rp_move {l : Ln ε α} : RsP (mMove l e) Q = OpP (l.get e) fun a => Q a (l.put none e) := by
  simp only [RsP_eq, SoP_eq, OpP_eq]
  exact rp_move_0
theorem rp_c {a : α} : RsP (mC a e) Q = Q a e := by
  simp only [RsP_eq, SoP_eq, OpP_eq]
  exact rp_c_0
theorem rp_opL {g : β → γ → Option α} {l : Ln ε β} {m : ε → Rs ε γ} : RsP (mOpL g l m e) Q = OpP (l.get e) fun _ => RsP (m e) fun c e1 => OpP (l.get e1) fun b => OpP (g b c) fun a => Q a e1 := by
  simp only [RsP_eq, SoP_eq, OpP_eq]
  exact rp_opL_0
theorem rp_pair {m : ε → Rs ε α} {n : ε → Rs ε β} {Q : α × β → ε → Prop} : RsP (mPair m n e) Q = RsP (m e) fun a e1 => RsP (n e1) fun b e2 => Q (a, b) e2 := by
  simp only [RsP_eq, SoP_eq, OpP_eq]
  exact rp_pair_0
theorem rp_pairL {l : Ln ε α} {n : ε → Rs ε β} {Q : α × β → ε → Prop} : RsP (mPairL l n e) Q = OpP (l.get e) fun _ => RsP (n e) fun b e1 => OpP (l.get e1) fun a => Q (a, b) e1 := by
  simp only [RsP_eq, SoP_eq, OpP_eq]
  exact rp_pairL_0
theorem rp_cons {m : ε → Rs ε α} {n : ε → Rs ε (List α)} {Q : List α → ε → Prop} : RsP (mCons m n e) Q = RsP (m e) fun a e1 => RsP (n e1) fun b e2 => Q (a :: b) e2 := by
  simp only [RsP_eq, SoP_eq, OpP_eq]
  exact rp_cons_0
theorem rp_call {f : β → Rs Unit α} {m : ε → Rs ε β} : RsP (mCall f m e) Q = RsP (m e) fun b e1 => RsP (f b) fun a _ => Q a e1 := by
  simp only [RsP_eq, SoP_eq, OpP_eq]
  exact rp_call_0
theorem rp_callI {l : Ln ε ι} {f : ι → β → Rs ι α} {m : ε → Rs ε β} : RsP (mCallI l f m e) Q = OpP (l.get e) fun _ => RsP (m e) fun b e1 => OpP (l.get e1) fun s => RsP (f s b) fun a s' => Q a (l.put (some s') (l.put none e1)) := by
  simp only [RsP_eq, SoP_eq, OpP_eq]
  exact rp_callI_0
theorem rp_bm {l : Ln ε ι} {g : ι → β → Option (α × ι)} {m : ε → Rs ε β} : RsP (mBM l g m e) Q = OpP (l.get e) fun _ => RsP (m e) fun b e1 => OpP (l.get e1) fun s => OpP (g s b) fun p => Q p.1 (l.put (some p.2) (l.put none e1)) := by
  simp only [RsP_eq, SoP_eq, OpP_eq]
  exact rp_bm_0
theorem rp_bm0 {l : Ln ε ι} {g : ι → Unit → Option (α × ι)} : RsP (mBM0 l g e) Q = OpP (l.get e) fun _ => OpP (l.get e) fun s => OpP (g s ()) fun p => Q p.1 (l.put (some p.2) (l.put none e)) := by
  simp only [RsP_eq, SoP_eq, OpP_eq]
  exact rp_bm0_0
theorem sp_setI {l : Ln ε γ} {g : γ → α → β → Option γ} {mi : ε → Rs ε α} {m : ε → Rs ε β} : SoP (mSetI l g mi m e : So ε ρ) N C B T = RsP (m e) fun y e1 => OpP (l.get e1) fun _ => RsP (mi e1) fun x e2 => OpP (l.get e2) fun s => OpP (g s x y) fun s' => N (l.put (some s') (l.put none e2)) := by
  simp only [RsP_eq, SoP_eq, OpP_eq]
  exact sp_setI_0
theorem rp_not {m : ε → Rs ε Bool} {Q : Bool → ε → Prop} : RsP (mNot m e) Q = RsP (m e) fun b e1 => Q (!b) e1 := by
  simp only [RsP_eq, SoP_eq, OpP_eq]
  exact rp_not_0
theorem rp_and {m n : ε → Rs ε Bool} {Q : Bool → ε → Prop} : RsP (mAnd m n e) Q = RsP (m e) fun b e1 => if b = true then RsP (n e1) Q else Q false e1 := by
  simp only [RsP_eq, SoP_eq, OpP_eq]
  exact rp_and_0
theorem rp_or {m n : ε → Rs ε Bool} {Q : Bool → ε → Prop} : RsP (mOr m n e) Q = RsP (m e) fun b e1 => if b = true then Q true e1 else RsP (n e1) Q := by
  simp only [RsP_eq, SoP_eq, OpP_eq]
  exact rp_or_0
theorem rp_if {c : ε → Rs ε Bool} {m n : ε → Rs ε α} : RsP (mIf c m n e) Q = RsP (c e) fun b e1 => if b = true then RsP (m e1) Q else RsP (n e1) Q := by
  simp only [RsP_eq, SoP_eq, OpP_eq]
  exact rp_if_0
theorem rp_chain {g : α → β → Option Bool} {g' : β → γ → Option Bool} {m : ε → Rs ε α} {n : ε → Rs ε β} {k : ε → Rs ε γ} {Q : Bool → ε → Prop} : RsP (mChain g g' m n k e) Q = RsP (m e) fun a e1 => RsP (n e1) fun b e2 => OpP (g a b) fun c => if c = true then RsP (k e2) fun d e3 => OpP (g' b d) fun z => Q z e3 else Q false e2 := by
  simp only [RsP_eq, SoP_eq, OpP_eq]
  exact rp_chain_0
theorem rp_mSome {m : ε → Rs ε α} {Q : Option α → ε → Prop} : RsP (mSome m e) Q = RsP (m e) fun a e1 => Q (some a) e1 := by
  simp only [RsP_eq, SoP_eq, OpP_eq]
  exact rp_mSome_0
theorem rp_mNone {m : ε → Rs ε Unit} {Q : Option α → ε → Prop} : RsP (mNone m e) Q = RsP (m e) fun a e1 => Q none e1 := by
  simp only [RsP_eq, SoP_eq, OpP_eq]
  exact rp_mNone_0
theorem rp_part {m : ε → Rs ε Int} {Q : Option Int → ε → Prop} : RsP (mPart m e) Q = RsP (m e) fun a e1 => Q (some a) e1 := by
  simp only [RsP_eq, SoP_eq, OpP_eq]
  exact rp_part_0
theorem rp_sl {g : β → Option Int → Option Int → Option α} {m : ε → Rs ε β} {lo hi : ε → Rs ε (Option Int)} : RsP (mSl g m lo hi e) Q = RsP (m e) fun b e1 => RsP (lo e1) fun l e2 => RsP (hi e2) fun u e3 => OpP (g b l u) fun a => Q a e3 := by
  simp only [RsP_eq, SoP_eq, OpP_eq]
  exact rp_sl_0
theorem rp_slL {g : β → Option Int → Option Int → Option α} {l : Ln ε β} {lo hi : ε → Rs ε (Option Int)} : RsP (mSlL g l lo hi e) Q = OpP (l.get e) fun _ => RsP (lo e) fun l1 e2 => RsP (hi e2) fun u e3 => OpP (l.get e3) fun b => OpP (g b l1 u) fun a => Q a e3 := by
  simp only [RsP_eq, SoP_eq, OpP_eq]
  exact rp_slL_0
theorem rp_rng1 {m : ε → Rs ε Int} {Q : List Int → ε → Prop} : RsP (mRng1 m e) Q = RsP (m e) fun n e1 => bigI n = true ∧ Q (rng 0 n) e1 := by
  simp only [RsP_eq, SoP_eq, OpP_eq]
  exact rp_rng1_0
theorem rp_rng2 {m : ε → Rs ε (Int × Int)} {Q : List Int → ε → Prop} : RsP (mRng2 m e) Q = RsP (m e) fun n e1 => (bigI n.1 = true ∧ bigI n.2 = true) ∧ Q (rng n.1 n.2) e1 := by
  simp only [RsP_eq, SoP_eq, OpP_eq]
  exact rp_rng2_0
theorem rp_enum {m : ε → Rs ε (List α)} {Q : List (Int × α) → ε → Prop} : RsP (mEnum m e) Q = RsP (m e) fun xs e1 => Q (enumF xs) e1 := by
  simp only [RsP_eq, SoP_eq, OpP_eq]
  exact rp_enum_0
theorem rp_lock {l : Ln ε γ} {m : ε → Rs ε α} : RsP (mLock l m e) Q = OpP (l.get e) fun x => RsP (m (l.put (some x) e)) fun a e1 => Q a (l.put (some x) (l.put none e1)) := by
  simp only [RsP_eq, SoP_eq, OpP_eq]
  exact rp_lock_0
theorem rp_dget2 [DecidableEq κ] {l : Ln ε (List (κ × β))} {m : ε → Rs ε κ} {x : ε → Rs ε β} {Q : β → ε → Prop} : RsP (mDGet2 l m x e) Q = OpP (l.get e) fun _ => RsP (m e) fun a e1 => RsP (x e1) fun b e2 => OpP (l.get e2) fun kbs => Q ((dget kbs a).getD b) e2 := by
  simp only [RsP_eq, SoP_eq, OpP_eq]
  exact rp_dget2_0
theorem rp_keys {l : Ln ε (List (κ × β))} {Q : List κ → ε → Prop} : RsP (mKeys l e) Q = OpP (l.get e) fun kbs => Q (keysOf kbs) e := by
  simp only [RsP_eq, SoP_eq, OpP_eq]
  exact rp_keys_0
theorem rp_lc {it : ε → Rs ε (List α)} {pt : α → ε → ε} {tt : ε → Rs ε Bool} {te : ε → Rs ε β} {kill : ε → ε} {rst : ε → ε → ε} {Q : List β → ε → Prop} : RsP (mLc it pt tt te kill rst e) Q = RsP (it e) fun xs e1 => xs.length ≤ 1000000 ∧ RsP (lcR pt tt te kill xs (kill e1) []) fun ys e2 => Q ys (rst e1 e2) := by
  simp only [RsP_eq, SoP_eq, OpP_eq]
  exact rp_lc_0
theorem rp_yes {Q : Bool → ε → Prop} : RsP (mYes e) Q = Q true e := by
  simp only [RsP_eq, SoP_eq, OpP_eq]
  exact rp_yes_0
theorem rp_runD {x : So ε ρ} {Q : ρ → Unit → Prop} : RsP (x.run none) Q = SoP x (fun _ => False) (fun _ => False) (fun _ => False) fun a _ => Q a () := by
  simp only [RsP_eq, SoP_eq, OpP_eq]
  exact rp_runD_0
theorem rp_runDS {x : So ε ρ} {d : ρ} {Q : ρ → Unit → Prop} : RsP (x.run (some d)) Q = SoP x (fun _ => Q d ()) (fun _ => False) (fun _ => False) fun a _ => Q a () := by
  simp only [RsP_eq, SoP_eq, OpP_eq]
  exact rp_runDS_0
theorem rp_runI {x : So ε ρ} {l : Ln ε ι} {Q : ρ → ι → Prop} : RsP (x.runI l none) Q = SoP x (fun _ => False) (fun _ => False) (fun _ => False) fun a e => OpP (l.get e) fun s => Q a s := by
  simp only [RsP_eq, SoP_eq, OpP_eq]
  exact rp_runI_0
theorem rp_runIS {x : So ε ρ} {l : Ln ε ι} {d : ρ} {Q : ρ → ι → Prop} : RsP (x.runI l (some d)) Q = SoP x (fun e => OpP (l.get e) fun s => Q d s) (fun _ => False) (fun _ => False) fun a e => OpP (l.get e) fun s => Q a s := by
  simp only [RsP_eq, SoP_eq, OpP_eq]
  exact rp_runIS_0
theorem cutP {m n : ε → So ε ρ} (Mid : ε → Prop) (h1 : SoP (m e) Mid C B T) (h2 : ∀ e1, Mid e1 → SoP (n e1) N C B T) : SoP (mCut m n e) N C B T := by
  simp only [RsP_eq, SoP_eq, OpP_eq] at *
  exact cutP_0 Mid h1 h2
theorem loopP {b : α → ε → So ε ρ} {xs : List α} {e : ε} (P : Nat → ε → Prop) (h0 : P 0 e) (hs : ∀ i x e, xs[i]? = some x → P i e → SoP (b x e) (P (i + 1)) (P (i + 1)) N T) (hd : ∀ e, P xs.length e → N e) : SoP (mLoop b xs e) N C B T := by
  simp only [RsP_eq, SoP_eq, OpP_eq] at *
  exact loopP_0 P h0 hs hd
theorem loopR {b : Int → ε → So ε ρ} {n : Nat} {hi : Int} {e : ε} (hn : hi = (n : Int)) (P : Nat → ε → Prop) (h0 : P 0 e) (hs : ∀ (i : Nat) e, i < n → P i e → SoP (b (i : Int) e) (P (i + 1)) (P (i + 1)) N T) (hd : ∀ e, P n e → N e) : SoP (mLoop b (rng 0 hi) e) N C B T := by
  simp only [RsP_eq, SoP_eq, OpP_eq] at *
  exact loopR_0 hn P h0 hs hd
theorem lcP {pt : α → ε → ε} {tt : ε → Rs ε Bool} {te : ε → Rs ε β} {kill : ε → ε} {xs : List α} {e : ε} {Q : List β → ε → Prop} (p : α → Bool) (f : α → β)
    (h : ∀ x ∈ xs, RsP (tt (pt x e)) fun b e1 => b = p x ∧ if p x = true then RsP (te e1) fun y e2 => y = f x ∧ kill e2 = e else kill e1 = e) (q : Q ((xs.filter p).map f) e) : RsP (lcR pt tt te kill xs e []) Q := by
  simp only [RsP_eq, SoP_eq, OpP_eq] at *
  exact lcP_0 p f h q
theorem lcM {pt : α → ε → ε} {te : ε → Rs ε β} {kill : ε → ε} {xs : List α} {e : ε} {Q : List β → ε → Prop} (f : α → β) (h : ∀ x ∈ xs, RsP (te (pt x e)) fun y e2 => y = f x ∧ kill e2 = e) (q : Q (xs.map f) e) : RsP (lcR pt mYes te kill xs e []) Q := by
  simp only [RsP_eq, SoP_eq, OpP_eq] at *
  exact lcM_0 f h q
end
variable {α : Type}
/-- a list, the step -/
def gStep (xs : List α) (o : Option Int) : Option (List α) := if o = some 1 then some xs else if o = some (-1) then some xs.reverse else none
theorem Held.up {P : Program} {w : World} {K : PySem.W.Frag} {mg : Str → Option Value} {base : Heap} {j k : Nat} {f : Addr} {sp : Sp} (h : Held P w K mg base j f sp) (hj : j ≤ k) : Held P w K mg base k f sp := by
  obtain ⟨fd, ps, F, hk, hb⟩ := h.ex
  exact ⟨fd, ps, ⟨F.len, fun A outer s H args us vs Q E hr => F.run A outer s H args us vs Q E (hr.mono hj)⟩, hk, hb⟩
section
variable {ε ι α ρ : Type} {P : Program} {w : World} {mg : Str → Option Value} {base : Heap} {k : Nat} {K : PySem.W.Frag} {R : ERep ε}
/-- the def, then the arguments, then the call -/
def mCallX (mf : ε → Rs ε (α → Rs Unit ρ)) (m : ε → Rs ε α) : ε → Rs ε ρ := fun e => (mf e).bind fun g e1 => mCall g m e1
def mCallXI (l : Ln ε ι) (mf : ε → Rs ε (ι → α → Rs ι ρ)) (m : ε → Rs ε α) : ε → Rs ε ρ := fun e => (mf e).bind fun g e1 => mCallI l g m e1
theorem rp_callX {mf : ε → Rs ε (α → Rs Unit ρ)} {m : ε → Rs ε α} {e : ε} {Q : ρ → ε → Prop} : RsP (mCallX mf m e) Q = RsP (mf e) fun g e1 => RsP (mCall g m e1) Q := by unfold mCallX; rw [rp_bind]
theorem rp_callXI {l : Ln ε ι} {mf : ε → Rs ε (ι → α → Rs ι ρ)} {m : ε → Rs ε α} {e : ε} {Q : ρ → ε → Prop} : RsP (mCallXI l mf m e) Q = RsP (mf e) fun g e1 => RsP (mCallI l g m e1) Q := by unfold mCallXI; rw [rp_bind]
end
section
variable {ε α β γ : Type} {K : PySem.W.Frag} {M : Mx} {R : ERep ε}
def gCut32 (p : α × β × γ) (lo hi : Option Int) : Option (α × β) := if lo = none ∧ hi = some 2 then some (p.1, p.2.1) else none
end
section
variable {K : PySem.W.Frag} {α β γ : Type}
def gMin2 (p : Int × Int) : Option Int := some (min p.1 p.2)
def gMax2 (p : Int × Int) : Option Int := some (max p.1 p.2)
def gRem (xs : List Int) (k : Int) : Option (Unit × List Int) := if k ∈ xs then some ((), xs.erase k) else none
/-- a value's own kind -/
def Kd (i : IR V α) (t : String) : Prop := ∀ K G H v a, Sub G H → i K G H v a → TyX K H v (.type t)
theorem kd_I : Kd (ir rI) "int" := fun K G H v a s h => by rw [show v = .int a from h]; exact .base (.int a)
theorem kd_S : Kd (ir rS) "str" := fun K G H v a s h => by rw [show v = .str a from h]; exact .base (.str a)
theorem kd_Tr {r : Rep α} : Kd (rd (oT r)) "tuple" := fun K G H v a s ⟨L, ho, h1, h2, vs, h3, h4⟩ => by subst h1 h3; exact .base (.tup h2)
theorem kd_z {q : ORep α} {t : String} (h : Kd (rd q) t) : Kd (ir (rz q)) t := fun K G H v a s x => h K G H v a s (Cv.ob _ _ _ _ _ s x)
def rTy (T : String) : Rep Unit := ⟨fun _ _ v _ => v = .ty T, fun _ h => h⟩
def gIsi (b : Bool) (_ : α × Unit) : Option Bool := some b
theorem v_isi {i : IR V α} {t T : String} {b : Bool} (kd : Kd i t) (hk : ∀ K, PySem.W.kitOne K (.type t) (.type T) = some b) : VR K (rIsi K) (aCons i (aOne (ir (rTy T)))) rB (gIsi b) := fun G H v a c Q s ⟨x, ws, h0, h1, y, h2, h3⟩ hg k => by
  cases hg; subst h0 h2
  rw [show y = .ty T from h3]
  exact ⟨x, _, _, _, b, rfl, .ty T, kd _ _ _ _ _ s h1, hk K, k _ G H (.refl s) rfl⟩
/-- None or a thing: never of a kind that neither is -/
theorem v_isiO {r : Rep α} {t T : String} (kd : Kd (ir r) t) (hk : ∀ K, PySem.W.kitOne K (.type t) (.type T) = some false) (hn : ∀ K, PySem.W.kitOne K (.type "NoneType") (.type T) = some false) : VR K (rIsi K) (aCons (ir (rO r)) (aOne (ir (rTy T)))) rB (gIsi false) := fun G H v a c Q s ⟨x, ws, h0, h1, y, h2, h3⟩ hg k => by
  cases hg; subst h0 h2
  rw [show y = .ty T from h3]
  cases ha : a.1 with
  | none =>
    rw [ha] at h1
    rw [show x = .non from h1]
    exact ⟨_, _, .type "NoneType", _, false, rfl, .ty T, .base .non, hn K, k _ G H (.refl s) rfl⟩
  | some z =>
    rw [ha] at h1
    exact ⟨x, _, .type t, _, false, rfl, .ty T, kd _ _ _ _ _ s h1.2, hk K, k _ G H (.refl s) rfl⟩
end
section
variable {K : PySem.W.Frag} {α β γ ε : Type} {M : Mx} {R : ERep ε}
def gSplit (a b : Str) : Option (List Str) := if (b.length == 0) = false ∧ a.length + 2 ≤ 16777216 then some (Txt.split a b) else none
def signs (z : Str) : List Str := z.cps.toList.map fun c => ⟨#[c]⟩
def mSigns (m : ε → Rs ε Str) : ε → Rs ε (List Str) := fun e => (m e).bind fun z e1 => .ok (signs z) e1
def gIntS (a : Str) : Option Int := if a.length ≤ 640 then PySem.intText? a else none
theorem rp_signs {m : ε → Rs ε Str} {e : ε} {Q : List Str → ε → Prop} : RsP (mSigns m e) Q = RsP (m e) fun z e1 => Q (signs z) e1 := by unfold mSigns; rw [rp_bind]; simp only [rp_ok]
def mNever {ρ : Type} : ε → So ε ρ := fun _ => .bad
theorem s_never {ρ : Type} {rr : RS V ρ} : SX M R rr tNever mNever := fun F G H σ e i hR D p => p
def srtF (fs : List (List Int)) : List (List Int) := fs.mergeSort faceLe
def gSortF (fs : List (List Int)) : Option (List (List Int)) := if fs.length ≤ 1000000 ∧ (∀ f ∈ fs, f.length ≤ 1000000) then some (srtF fs) else none
def mUnw (m : ε → Rs ε (Option α)) : ε → Rs ε α := fun e => (m e).bind fun o e1 => .of o e1
theorem x_unw {t : TE} {r : Rep α} {m : ε → Rs ε (Option α)} (h : EX M R t (fz (rO r)) m) : EX M R t (fz r) (mUnw m) := fun F G H σ e i hR Q p =>
  h F G H σ e i hR _ (p.bind fz_h fun v o e1 G1 H1 i1 s1 R1 r1 p1 => by
    cases o with
    | none => exact p1.elim
    | some a => exact p1 v G1 H1 H1 i1 .refl ⟨r1.1.2, rfl⟩ R1)
theorem rp_unw {m : ε → Rs ε (Option α)} {e : ε} {Q : α → ε → Prop} : RsP (mUnw m e) Q = RsP (m e) fun o e1 => OpP o fun a => Q a e1 := by unfold mUnw; rw [rp_bind]; simp only [rp_of]
end
variable {ε α β ρ : Type} {M : Mx} {R : ERep ε} {rr : RS V ρ}
/-- a name whose thing may be anything -/
structure Fg (R : ERep ε) (n : Nat) (l : Ln ε α) : Prop where
  ln : ∀ {K F G H σ e}, R.rel K F G H σ e → n < σ.length
  st : ∀ {K F G H σ e} (v : V), R.rel K F G H σ e → R.rel K F G H (σ.set n (some v)) (l.put none e)
section
variable {r : Rep α} {r' : Rep β} {q' : ORep β} {own : Frm → Addr → Prop} [op : OwnP own] {n : Nat} {l : Ln ε α}
theorem Fg.z : Fg (eFr r R) 0 Ln.z := by
  refine ⟨?_, ?_⟩
  · rintro K F G H σ e ⟨o, σ', rfl, h2, h3⟩
    simp
  · rintro K F G H σ e v ⟨o, σ', rfl, h2, h3⟩
    exact ⟨some v, σ', rfl, fun x hx => (nomatch hx), h3⟩
theorem Fg.sF (h : Fg R n l) : Fg (eFr r' R) (n + 1) (Ln.s l) := by
  refine ⟨?_, ?_⟩
  · rintro K F G H σ e ⟨o, σ', rfl, h2, h3⟩
    simpa using h.ln h3
  · rintro K F G H σ e v ⟨o, σ', rfl, h2, h3⟩
    exact ⟨o, _, rfl, h2, h.st v h3⟩
end
/-- x = y, then what is done with x is done with y -/
def mAl (l : Ln ε α) (q : Ln ε β) (m : ε → So ε ρ) : ε → So ε ρ := fun e => match q.get e with
  | some _ => m (l.put none e)
  | none => .bad
theorem sp_al {l : Ln ε α} {q : Ln ε β} {m : ε → So ε ρ} {e : ε} {N C B : ε → Prop} {T : ρ → ε → Prop} : SoP (mAl l q m e) N C B T = OpP (q.get e) fun _ => SoP (m (l.put none e)) N C B T := by
  unfold mAl
  cases q.get e with
  | none =>
    rw [SoP_eq, OpP_eq]
    rfl
  | some a => rw [op_some]
section
variable {K : PySem.W.Frag} {α β γ ε ρ : Type} {w : World} {P : Program}
def gSetF (fs : List (List Int)) : Option (List (List Int)) := if fs.length < 64 then some fs else none
/-- rising faces, each once -/
def insF (x : List Int) : List (List Int) → List (List Int)
  | [] => [x]
  | y :: ys => if x < y then x :: y :: ys else if x = y then y :: ys else y :: insF x ys
def ssetF (fs : List (List Int)) : List (List Int) := fs.foldr insF []
def gSsetF (fs : List (List Int)) : Option (List (List Int)) := some (ssetF fs)
theorem kd_T2r {r : Rep α} {r' : Rep β} : Kd (rd (oT2 r r')) "tuple" := fun K G H v a s ⟨L, ho, h1, h2, x, y, h3, h4, h5⟩ => by subst h1 h3; exact .base (.tup h2)
def gLen2 (_ : α × β) : Option Int := some 2
def rSum (r : Rep α) (r' : Rep β) : Rep (α ⊕ β) := ⟨fun K G v x => match x with | .inl a => r.rel K G v a | .inr b => r'.rel K G v b, fun {K G G' v x} s h => by
  cases x with
  | inl a => exact r.mono s h
  | inr b => exact r'.mono s h⟩
def Ln.zl : Ln (Option (α ⊕ β) × ε) α := ⟨fun e => match e.1 with | some (.inl a) => some a | _ => none, fun a e => (a.map Sum.inl, e.2)⟩
def Ln.zr : Ln (Option (α ⊕ β) × ε) β := ⟨fun e => match e.1 with | some (.inr a) => some a | _ => none, fun a e => (a.map Sum.inr, e.2)⟩
section
variable {e : ε} {o : Option (α ⊕ β)} {a : α} {b : β}
theorem Ln.get_zlS : (Ln.zl : Ln (Option (α ⊕ β) × ε) α).get (some (.inl a), e) = some a := rfl
theorem Ln.get_zlN : (Ln.zl : Ln (Option (α ⊕ β) × ε) α).get (none, e) = none := rfl
theorem Ln.put_zlS : (Ln.zl : Ln (Option (α ⊕ β) × ε) α).put (some a) (o, e) = (some (.inl a), e) := rfl
theorem Ln.put_zlN : (Ln.zl : Ln (Option (α ⊕ β) × ε) α).put none (o, e) = (none, e) := rfl
theorem Ln.get_zrS : (Ln.zr : Ln (Option (α ⊕ β) × ε) β).get (some (.inr b), e) = some b := rfl
theorem Ln.get_zrN : (Ln.zr : Ln (Option (α ⊕ β) × ε) β).get (none, e) = none := rfl
theorem Ln.put_zrS : (Ln.zr : Ln (Option (α ⊕ β) × ε) β).put (some b) (o, e) = (some (.inr b), e) := rfl
theorem Ln.put_zrN : (Ln.zr : Ln (Option (α ⊕ β) × ε) β).put none (o, e) = (none, e) := rfl
end
variable {M : Mx} {R : ERep ε}
def ptSub (l : Ln ε γ) (g : γ → α → β → Option γ) (mi : ε → Rs ε α) : β → ε → Rs ε Unit := fun y e => match l.get e with
  | none => .bad
  | some _ => (mi e).bindN fun x e1 => match l.get e1 with
    | none => .bad
    | some st => match g st x y with
      | none => .bad
      | some st' => .ok () (l.put (some st') (l.put none e1))
def ptTwo (p : α → ε → Rs ε Unit) (p' : β → ε → Rs ε Unit) : α × β → ε → Rs ε Unit := fun ab e => (p ab.1 e).bindN fun _ e1 => p' ab.2 e1
theorem sp_asg {m : ε → Rs ε α} {pt : α → ε → Rs ε Unit} {e : ε} {N C B : ε → Prop} {T : ρ → ε → Prop} : SoP (mAsg m pt e : So ε ρ) N C B T = RsP (m e) fun a e1 => RsP (pt a e1) fun _ e2 => N e2 := by
  unfold mAsg
  rw [sp_so]
  congr
  funext a e1
  rw [sp_so]
  congr
  funext _ e2
  rw [sp_nx]
theorem rp_ptTwo {p : α → ε → Rs ε Unit} {p' : β → ε → Rs ε Unit} {a : α × β} {e : ε} {Q : Unit → ε → Prop} : RsP (ptTwo p p' a e) Q = RsP (p a.1 e) fun _ e1 => RsP (p' a.2 e1) Q := by
  unfold ptTwo
  rw [rp_bindN]
theorem rp_ptSub {l : Ln ε γ} {g : γ → α → β → Option γ} {mi : ε → Rs ε α} {y : β} {e : ε} {Q : Unit → ε → Prop} : RsP (ptSub l g mi y e) Q = OpP (l.get e) fun _ => RsP (mi e) fun x e1 => OpP (l.get e1) fun st => OpP (g st x y) fun st' => Q () (l.put (some st') (l.put none e1)) := by
  unfold ptSub
  cases h0 : l.get e with
  | none => rw [RsP_eq, OpP_eq]; rfl
  | some st0 =>
    rw [op_some]
    dsimp only
    rw [rp_bindN]
    congr
    funext x e1
    cases k2 : l.get e1 with
    | none => rw [RsP_eq, OpP_eq]; rfl
    | some st =>
      rw [op_some]
      dsimp only
      cases hg : g st x y with
      | none => rw [RsP_eq, OpP_eq]; rfl
      | some st' => rw [op_some, rp_ok]
end
section
variable {K : PySem.W.Frag} {α β γ ε ρ : Type}
/-- the pairs put one after the other -/
def dputs (kbs more : List (Int × β)) : List (Int × β) := more.foldl (fun acc kv => dput acc kv.1 kv.2) kbs
def gUpd (kbs more : List (Int × β)) : Option (Unit × List (Int × β)) := if kbs.length + more.length < 1000000 then some ((), dputs kbs more) else none
def gStr (n : Int) : Option Str := if n.natAbs.log2 < 1920 then some (toString n) else none
def gLenS (z : Str) : Option Int := if z.length ≤ 1000000 then some (z.length : Int) else none
end
section
variable {K : PySem.W.Frag} {α β γ ε ρ : Type}
def srtK (fs : List (List Int)) : List (List Int) := fs.mergeSort tLe
def gSortK (kbs : List (List Int × β)) : Option (List (List Int)) := if kbs.length ≤ 1000000 then some (srtK (keysOf kbs)) else none
end
/-- a caught exception -/
def exq (a : Addr) (cls : Value) (d : Option Addr) : HO := .ext fun h => ∃ oe vs, h.get? a = some oe ∧ Zc cls d oe ∧ oe.data = .fields vs
theorem exq_ok {P : Program} {w : World} {H : Hp} {h : Heap} {a : Addr} {cls : Value} {d : Option Addr} {oe : Obj} {vs : Array Value} (he : h.get? a = some oe) (hz : Zc cls d oe) (hd : oe.data = .fields vs) : ObjOk P w H h a (exq a cls d) :=
  ⟨⟨oe, vs, he, hz, hd⟩, ⟨_, he⟩, fun h1 h2 ⟨oe, vs, q1, q2, q3⟩ k => ⟨oe, vs, k _ q1, q2, q3⟩⟩
section
variable {X : Cx} {pins : List (Addr × Obj)} {σ : L2.St} {H : Hp} {s : Shared}
/-- an object that no one tracked, from now on told -/
theorem inv_exq {a : Addr} {cls : Value} {d : Option Addr} {oe : Obj} {vs : Array Value} (I : Inv X pins σ H s) (he : s.heap.get? a = some oe) (hz : Zc cls d oe) (hd : oe.data = .fields vs) (na : H a = none) (n0 : X.s_0.heap.get? a = none) (nL : a ≠ X.env.locals) (np : ∀ p ∈ X.pn ++ pins, p.1 ≠ a) :
    Inv X pins σ (upd H a (exq a cls d)) s := by
  refine ⟨I.ok, I.os, I.bare, ⟨I.base.keep, I.base.slot, fun b o e n hx => ?_, I.base.there, fun b xs e => ?_, fun b o u e => ?_, fun b ps e => ?_⟩, I.loc, I.cell, ?_, fun x c e => ?_, fun p hp => ?_, fun b o e => ?_, I.len⟩
  · rw [upd_ne (fun z => by rw [z, n0] at e; cases e)]
    exact I.base.free b o e n hx
  · have := I.base.tups b xs e
    rw [upd_ne (ne_of_none this na)]
    exact this
  · have := I.base.frzs b o u e
    rw [upd_ne (ne_of_none this na)]
    exact this
  · obtain ⟨more, this⟩ := I.base.tbls b ps e
    rw [upd_ne (ne_of_none this na)]
    exact ⟨more, this⟩
  · rw [upd_ne (Ne.symm nL)]
    exact I.free
  · rw [upd_ne (fun z => ?_)]
    · exact I.freeC x c e
    · obtain ⟨v, o, ho, hc⟩ := I.cell x c e
      rw [z, he] at ho
      cases ho
      rw [hd] at hc
      cases hc
  · obtain ⟨p1, p2, p3, p4, p5⟩ := I.pin p hp
    exact ⟨p1, by rw [upd_ne (np p hp)]; exact p2, p3, p4, p5⟩
  · by_cases hb : b = a
    · subst hb
      rw [upd_same] at e
      cases e
      exact exq_ok he hz hd
    · rw [upd_ne hb] at e
      refine (I.hok b o e).stay (fun _ _ _ q => q) (fun c q => ?_) fun c xs q => ?_
      · rw [upd_ne (ne_of_none q na)]
        exact q
      · rw [upd_ne (ne_of_none q na)]
        exact q
end
/-- what the clause 'except x as n: y = n' wishes -/
def wK (K : PySem.W.Frag) (c : Value) (i : Nat) (ts : Addr → Value → Option Addr → TS) (D : Ends) : WX := fun cls d σ H =>
  PySem.W.exmOne K cls c = some true ∧ ∀ a, H a = none → ts a cls d { nx := fun σ' H' => H' a = none ∧ D.nx (σ'.set i none) (upd H' a (exq a cls d)), rt := fun _ _ => False, bk := fun _ _ => False, ct := fun _ _ => False } (σ.set i (some (.ref a))) H
section
variable {X : Cx} {x n : Str} {c : Value} {i : Nat} {body suite : List Stmt} {b₀ : Stmt} {np pos pos' : Pos} {tb : WX → TS} {ts : Addr → Value → Option Addr → TS}
theorem ps_try_keep (hs : X.stack = X.env :: X.outer) (hf : X.env.frame = some X.env.locals) (hex : X.ex = []) (hN : X.N.Nodup) (hi : X.N[i]? = some n) (hln : X.env.kindOf n = some .local) (hc : Names X x c)
    (hb : ∀ (W : WX) (pn : List (Addr × Obj)) (xe : Value → Shared → Prop), Takes (X.tr pn xe) W → PassesOwn (model X.prog X.w) X.A X.env xe → PSs (X.tr pn xe) body (tb W))
    (hsu : ∀ (a : Addr) (oe : Obj) (cls : Value) (d : Option Addr) (pn : List (Addr × Obj)), Zc cls d oe → (∃ vs, oe.data = .fields vs) → PSs (X.suite a ((a, oe) :: pn)) (b₀ :: suite) (ts a cls d)) :
    PS X (.Try body [.ExceptHandler (some (.Name x np)) (some n) (b₀ :: suite) pos'] [] [] pos) (fun D σ H => tb (wK X.K c i ts D) D σ H) := by
  refine ⟨fun pins s σ H D I h => ?_⟩
  have ok := I.ok
  have hfr : X.A.frames = some (X.env :: X.outer) := by rw [ok.frames, hs]
  have hloc : Loc X.env.scope n := .inl hln
  refine wpAny_Try_except ?_
  refine wpAny_mono ((hb (wK X.K c i ts D) (X.pn ++ pins) (fun e s₁ => wpAny (model X.prog X.w) X.A (noteFrame e X.env) (fun _ s₂ => wpAny (model X.prog X.w) X.A (setFlight e none) (fun _ s₃ =>
    wpAny (model X.prog X.w) X.A (handleBy e X.env [.ExceptHandler (some (.Name x np)) (some n) (b₀ :: suite) pos']) (SP X pins D) X.xe s₃) X.xe s₂) X.xe s₁) (fun u s' xx => ?_) PassesOwn.looking).run [] s σ H D (I.toTry _) h) (fun f s1 hsp => ?_) (fun e s1 he => he)
  · obtain ⟨a, B, sI, pins', σ', H', cls, d, rfl, J', nb, up, sky, na, os, ag, hb1, hyes⟩ := xx
    have J : Inv X pins σ' H' sI := J'.ofTry ok
    have sky' : Sky B (X.env :: X.outer) a (Zc cls d) X.env.locals s'.heap := by rw [← hs]; exact sky
    show wpAny (model X.prog X.w) X.A (noteFrame (.ref a) X.env) _ _ _
    refine Sky.land Zc.steady hfr hf sky' fun h3 fl3 up3 => ?_
    have J3 : Inv X pins σ' H' { s' with heap := h3 } := J.landed nb fl3.1 (up.trans up3) os ag
    obtain ⟨oe3, vs3, he3, hz3, hd3⟩ := fl3.there
    have notFr : ∀ {h : Heap} {o : Obj} {vs : Array Value}, h.FunFrames B (X.env :: X.outer) → h.get? a = some o → o.data = .fields vs → a ∉ frs (X.env :: X.outer) := fun {h o vs} ff e dd hm => by
      obtain ⟨_, o', e', hnf⟩ := ff.mem hm
      rw [e] at e'; cases e'
      exact hnf _ dd
    have nfr := notFr fl3.2.2.1 he3 hd3
    have nL : a ≠ X.env.locals := fun z => nfr (List.mem_filterMap.mpr ⟨X.env, List.mem_cons_self, by rw [hf, z]⟩)
    have nF : a ∉ X.fs := fun hm => by
      obtain ⟨e, he, q⟩ := List.mem_filterMap.mp hm
      exact nfr (List.mem_filterMap.mpr ⟨e, List.mem_cons_of_mem _ he, q⟩)
    have nI : sI.heap.get? a = none := by
      cases q : sI.heap.get? a with
      | none => rfl
      | some o =>
        have := nb a o q (by rw [hs]; exact nfr)
        rw [fl3.2.1] at this
        cases this
    have n0 : X.s_0.heap.get? a = none := by
      cases q : X.s_0.heap.get? a with
      | none => rfl
      | some o =>
        obtain ⟨o', q'⟩ := J.base.there a o q (by rw [hex]; exact List.not_mem_nil)
        rw [nI] at q'
        cases q'
    have npin : ∀ p ∈ X.pn ++ pins, p.1 ≠ a := fun p hp z => by
      have := (J.pin p hp).1
      rw [z, nI] at this
      cases this
    have S3 := J3.suite he3 hd3 na nL nF
    refine wpAny_handleBy_cons (codeAny_handlers_test ?_) (by intro q; cases q)
    have LT : PySem.W.Looks (model X.prog X.w) h3 (typeOf (.ref a)) cls := fun A Q E s k q => wpAny_typeOf_ref (k _ _ he3) (by rw [hz3.1]; exact q)
    have LM := PySem.W.exm_one (M := model X.prog X.w) (J3.kIn) LT hb1
    have test : ∀ {Q : Value → Shared → Prop} {E : Value → Shared → Prop}, Q c { s' with heap := h3 } → wpAny (model X.prog X.w) (X.A.mark (some (.ref a))) (eval (.Name x np) X.env) Q E { s' with heap := h3 } := fun {Q E} q => by
      obtain ⟨hg, hdbg, hm | ⟨hm, hv, hnn⟩⟩ := hc
      · exact ld_glob (X := X.suite a ((a, oe3) :: (X.pn ++ pins))) S3 hg hm q hdbg
      · exact ld_blt (X := X.suite a ((a, oe3) :: (X.pn ++ pins))) S3 hg hm hv q hnn hdbg
    refine test (LM.here ?_)
    refine codeAny_handlers_suite_as ?_
    refine HandSPX.lands_againZ fl3 fun h4 fl4 up4 => ?_
    have J4 : Inv X pins σ' H' { s' with heap := h4 } := J.landed nb fl4.1 ((up.trans up3).trans up4) os ag
    obtain ⟨oe4, vs4, he4, hz4, hd4⟩ := fl4.there
    have S4 := J4.suite he4 hd4 na nL nF
    refine store_ok (X := X.suite a ((a, oe4) :: (X.pn ++ pins))) (v := .ref a) S4 hN hi hloc rfl (fun s5 S5 => ?_) (.inr hln)
    refine wpAny_mono ((hsu a oe4 cls d (X.pn ++ pins) hz4 ⟨_, hd4⟩).run [] s5 _ H' _ S5 (hyes a na)) (fun f s6 hsp => ?_) (fun _ _ z => False.elim z)
    cases f with
    | next =>
      obtain ⟨σ6, H6, S6, n6, q6⟩ := hsp
      obtain ⟨g6, _⟩ := S6.pin (a, oe4) (List.mem_append.mpr (.inl List.mem_cons_self))
      have I6 := inv_exq (S6.unsuite ok) g6 hz4 hd4 n6 n0 nL npin
      exact gone_ok I6 hN hi hln fun s7 J7 => ⟨_, _, J7, q6⟩
    | brk => exact let ⟨_, _, _, z⟩ := hsp; z.elim
    | cont => exact let ⟨_, _, _, z⟩ := hsp; z.elim
    | ret u => exact let ⟨_, _, _, _, _, z⟩ := hsp; z.elim
  · cases f with
    | next =>
      obtain ⟨σ', H', J', q⟩ := hsp
      exact wpAny_execs_nil ⟨σ', H', J'.ofTry ok, q⟩
    | brk =>
      obtain ⟨σ', H', J', q⟩ := hsp
      exact ⟨σ', H', J'.ofTry ok, q⟩
    | cont =>
      obtain ⟨σ', H', J', q⟩ := hsp
      exact ⟨σ', H', J'.ofTry ok, q⟩
    | ret u =>
      obtain ⟨v, σ', H', J', r, q⟩ := hsp
      exact ⟨v, σ', H', J'.ofTry ok, r, q⟩
end
theorem PSn {X : Cx} {st : Stmt} {t : TS} (h : PS X.nox st t) : PS X st t := ⟨fun pins s σ H D I hw =>
  wpAny_mono (h.run pins s σ H D (I.wish _) hw) (fun _ _ q => q.unwish) fun _ _ z => False.elim z⟩
def excB (K : PySem.W.Frag) (C : Addr) : Bool :=
  decide (PySem.W.findIn K (.ref C) "__getattribute__" = some (some (.builtin "BaseException.__getattribute__"))) && (decide (PySem.W.findIn K (.ref C) "__getattr__" = some none) && (decide (PySem.W.subIn K (.ref C) (.type "BaseException") = some true) && (PySem.W.hasDictIn K C &&
  (decide (PySem.W.findIn K (.ref C) "__class__" = some (some (.builtin "object.__class__"))) && (decide (PySem.W.specialIn K (.builtin "object.__class__") "__get__" = some (some (.builtin "getset_descriptor.__get__"))) && (decide (PySem.W.takesIn K (.builtin "object.__class__") = some true) && decide (PySem.W.mroIn K C (.type "object") = some true)))))))
theorem excB_ok {K : PySem.W.Frag} {C : Addr} (h : excB K C = true) : ExcC K C := by
  obtain ⟨h1, h⟩ := Bool.and_eq_true_iff.mp h
  obtain ⟨h2, h⟩ := Bool.and_eq_true_iff.mp h
  obtain ⟨h3, h⟩ := Bool.and_eq_true_iff.mp h
  obtain ⟨h4, h⟩ := Bool.and_eq_true_iff.mp h
  obtain ⟨h5, h⟩ := Bool.and_eq_true_iff.mp h
  obtain ⟨h6, h⟩ := Bool.and_eq_true_iff.mp h
  obtain ⟨h7, h8⟩ := Bool.and_eq_true_iff.mp h
  exact ⟨of_decide_eq_true h1, of_decide_eq_true h2, of_decide_eq_true h3, h4, of_decide_eq_true h5, of_decide_eq_true h6, of_decide_eq_true h7, of_decide_eq_true h8⟩
/-- a class that is raised with a text -/
def rzB (K : PySem.W.Frag) (C : Addr) : Bool := PySem.W.excIn K C [.type "ValueError", .type "Exception", .type "BaseException", .type "object"] "ValueError.__new__" && (PySem.W.keepIn K (.ref C) && (decide (PySem.W.subIn K (.ref C) (.type "BaseException") = some true) && decide (PySem.W.typeIn K (.ref C) = some (.type "type"))))
/-- is a class under another: all stand under SideError -/
def isa (n c : Str) : Bool := n == c || c == "SideError"
def xkB (K : PySem.W.Frag) (cx : Str → Addr) (ns cs : List Str) : Bool := ns.all fun n => excB K (cx n) && (decide (PySem.W.exmOne K (.ref (cx n)) (.ref (cx "SideError")) = some true) && (decide (PySem.W.kitOne K (.ref (cx n)) (.type "ValueError") = some true) && cs.all fun c => decide (PySem.W.kitOne K (.ref (cx n)) (.ref (cx c)) = some (isa n c))))
structure Xk (K : PySem.W.Frag) (cx : Str → Addr) (ns cs : List Str) : Prop where
  ex : ∀ n ∈ ns, ExcC K (cx n)
  em : ∀ n ∈ ns, PySem.W.exmOne K (.ref (cx n)) (.ref (cx "SideError")) = some true
  ve : ∀ n ∈ ns, PySem.W.kitOne K (.ref (cx n)) (.type "ValueError") = some true
  kt : ∀ n ∈ ns, ∀ c ∈ cs, PySem.W.kitOne K (.ref (cx n)) (.ref (cx c)) = some (isa n c)
theorem xkB_ok {K : PySem.W.Frag} {cx : Str → Addr} {ns cs : List Str} (h : xkB K cx ns cs = true) : Xk K cx ns cs := by
  have h1 := List.all_eq_true.mp h
  refine ⟨fun n hn => excB_ok (Bool.and_eq_true_iff.mp (h1 n hn)).1, fun n hn => ?_, fun n hn => ?_, fun n hn c hc => ?_⟩
  · exact of_decide_eq_true (Bool.and_eq_true_iff.mp (Bool.and_eq_true_iff.mp (h1 n hn)).2).1
  · exact of_decide_eq_true (Bool.and_eq_true_iff.mp (Bool.and_eq_true_iff.mp (Bool.and_eq_true_iff.mp (h1 n hn)).2).2).1
  · exact of_decide_eq_true (List.all_eq_true.mp (Bool.and_eq_true_iff.mp (Bool.and_eq_true_iff.mp (Bool.and_eq_true_iff.mp (h1 n hn)).2).2).2 c hc)
def tRz (E : XK) (C : Addr) : TS := fun _ _ H => E (.ref C) none H
theorem ps_rz {X : Cx} {E : XK} {x m : Str} {j : Nat} {C : Addr} {p p2 pos pos2 : Pos} (hc : X.calm = true) (tk : Takes X (fun cls d _ H => E cls d H)) (q : rzB X.K C = true) (gC : X.mg x = some (.ref C)) (hg : Gl X x)
    (hdb : (x == ("__debug__" : Str)) = false := by decide) : PS X (.Raise (some (.Call (.Name x p) [.Constant (.str m) j p2] [] pos)) none pos2) (tRz E C) := by
  obtain ⟨q1, q⟩ := Bool.and_eq_true_iff.mp q
  obtain ⟨q2, q⟩ := Bool.and_eq_true_iff.mp q
  obtain ⟨q3, q4⟩ := Bool.and_eq_true_iff.mp q
  exact ps_raise hc tk (pmk_own PySem.F.excBase_ValueError q1 gC q2 (raises_own (of_decide_eq_true q3) (of_decide_eq_true q4)) hg hdb)
def dOk (H : Hp) (d : Option Addr) : Prop := ∀ dd, d = some dd → ∃ fs, H dd = some (.xd fs)
theorem inst_of {X : Cx} {pins : List (Addr × Obj)} {σ : L2.St} {H : Hp} {s : Shared} {a C : Addr} {d : Option Addr} (I : Inv X pins σ H s) (h : H a = some (exq a (.ref C) d)) (hd : dOk H d) : ∃ ox od, PySem.W.InstAt s.heap a ox C od := by
  obtain ⟨⟨oe, vs, h1, h2, h3⟩, _, _⟩ := I.hok a _ h
  cases hdd : d with
  | none =>
    refine ⟨oe, none, h1, h2.1, by unfold PySem.W.notCls; rw [h3], ?_⟩
    rw [h2.2, hdd]
    trivial
  | some dd =>
    obtain ⟨fs, hx⟩ := hd dd hdd
    obtain ⟨mA, ⟨od, es, ep, ho, _⟩, _⟩ := I.hok dd _ hx
    refine ⟨oe, some od, h1, h2.1, by unfold PySem.W.notCls; rw [h3], ?_⟩
    rw [h2.2, hdd]
    exact ho
theorem kitx_of_exc {K : PySem.W.Frag} {C x : Addr} {ox : Obj} {od : Option Obj} (F : ExcC K C) : PySem.W.KitX K (.ref x) (.ref C) (fun h => PySem.W.InstAt h x ox C od) :=
  PySem.W.kitx_exc (by obtain ⟨cd, hc, _⟩ := PySem.W.any_some F.hd; rw [hc]; rfl) F.hg F.hk F.hs F.ha F.hn F.ht F.hm
def rIsX (K : PySem.W.Frag) : List V → Hp → VK → Prop := fun xs H Q => ∃ (a C : Addr) (d : Option Addr) (c : V) (cv : Value) (b : Bool), xs = [.ref a, c] ∧ H a = some (exq a (.ref C) d) ∧ dOk H d ∧ ExcC K C ∧ (∀ u, RelV c u → u = cv) ∧ PySem.W.kitOne K (.ref C) cv = some b ∧ Q (.bl b) H
theorem call_isX {X : Cx} : CallR X (.builtin "isinstance") (rIsX X.K) := by
  intro pins s σ H xs us Q I r h
  obtain ⟨a, C, d, c, cv, b, rfl, ha, hd, F, hcv, e, q⟩ := h
  cases r with
  | cons rx rr =>
    cases rr with
    | cons rt rr =>
      cases rr
      cases rx
      have ec := hcv _ rt
      subst ec
      obtain ⟨ox, od, J⟩ := inst_of I ha hd
      exact PySem.W.kia_one (kitx_of_exc F) I.kIn J e (fun z => nomatch z) fun tk => ⟨.bl b, H, I.kept (t' := tk) fun _ _ z => z, rfl, q⟩
/-- .. of a tuple of classes -/
def rIsXT (K : PySem.W.Frag) : List V → Hp → VK → Prop := fun xs H Q => ∃ (a C t : Addr) (d : Option Addr) (cs : List Addr) (b : Bool), xs = [.ref a, .ref t] ∧ H a = some (exq a (.ref C) d) ∧ dOk H d ∧ ExcC K C ∧ H t = some (.tup (cs.map V.ref)) ∧ PySem.W.kitAny K (.ref C) (cs.map Value.ref) = some b ∧ Q (.bl b) H
theorem vals_refs : ∀ {cs : List Addr} {us : List Value}, Vals (cs.map V.ref) us → us = cs.map Value.ref
  | [], _, h => by cases h; rfl
  | c :: cs, _, h => by
    cases h with
    | cons h1 h2 =>
      cases h1
      rw [vals_refs h2]
      rfl
theorem call_isXT {X : Cx} : CallR X (.builtin "isinstance") (rIsXT X.K) := by
  intro pins s σ H xs us Q I r h
  obtain ⟨a, C, t, d, cs, b, rfl, ha, hd, F, ht, e, q⟩ := h
  cases r with
  | cons rx rr =>
    cases rr with
    | cons rt rr =>
      cases rr
      cases rx
      cases rt
      obtain ⟨ox, od, J⟩ := inst_of I ha hd
      obtain ⟨_, its, rv, o, ho, hc, n, hs⟩ := I.hok t _ ht
      obtain rfl := vals_refs rv
      obtain ⟨oc, odd, oda, osl⟩ := o
      dsimp only at hc hs
      subst hc hs
      exact PySem.W.kia_tup (kitx_of_exc F) I.kIn J ho e (fun z => nomatch z) fun tk => ⟨.bl b, H, I.kept (t' := tk) fun _ _ z => z, rfl, q⟩
section
variable {ν ν' α β γ ε ρ ι : Type} {M : Mx} {R : ERep ε} {F : Frm} {G G1 H : Hp} {σ : Sg} {D : Ends}
def PostX (K : PySem.W.Frag) (cx : Str → Addr) (F : Frm) (rr : RS V ρ) (Q : VK) (E : XK) : Rs Unit ρ → Prop
  | .ok b _ => ∀ v G' H' H1, IV F G' H' → rr.rel K F G' H' v b H1 → Q v H'
  | .ex c _ => ∀ cls d G' H', IV F G' H' → xr ⟨K, E, cx⟩ G' c cls d → E cls d H'
  | .bad => False
/-- a def that may raise: f its mirror -/
def spX (K : PySem.W.Frag) (cx : Str → Addr) (ra : IR (List V) α) (rr : RS V ρ) (f : α → Rs Unit ρ) : Sp := fun vs H Q E => ∃ G a, (Sub G H ∧ Tps G H) ∧ ra K G H vs a ∧ PostX K cx ⟨G, H, [], fun _ => none, fun _ => none⟩ rr Q E (f a)
def mCallE (f : α → Rs Unit ρ) (m : ε → Rs ε α) : ε → Rs ε ρ := fun e => (m e).bind fun a e1 => match f a with
  | .ok b _ => .ok b e1 | .ex c _ => .ex c e1 | .bad => .bad
theorem x_callE {t : TA} {ra : IR (List V) α} {r : Rep ρ} {f : α → Rs Unit ρ} {m : ε → Rs ε α} (h : EX M R t (is ra) m) : EX M R (tCall (spX M.K M.cx ra (fz r) f) [] M.E t) (fz r) (mCallE f m) := fun F G H σ e i hR Q p =>
  h F G H σ e i hR _ (p.bind is_h fun vs a e1 G1 H1 i1 s1 R1 r1 p1 => by
    rw [List.append_nil]
    refine ⟨G1, a, ⟨i1.gh, i1.tp⟩, r1.1, ?_⟩
    revert p1
    cases f a with
    | ok b u => exact fun p1 v G' H' Hx j hr => p1 v G' H' H' (i1.after j fun _ z => absurd z List.not_mem_nil) j.g0 ⟨hr.1, rfl⟩ (R_after j R1)
    | ex c u => exact fun p1 cls d G' H' j hx => p1 cls d G' H' (i1.after j fun _ z => absurd z List.not_mem_nil) j.g0 (R_after j R1) hx
    | bad => exact id)
/-- a call of a def that doesn't raise, wherever it stands -/
theorem x_callN {cx : Str → Addr} {E' : XK} {t : TA} {ra : IR (List V) α} {r : Rep ρ} {f : α → Rs Unit ρ} {m : ε → Rs ε α} (h : EX M R t (is ra) m) : EX M R (tCall (spD M.K cx ra (fz r) f) [] E' t) (fz r) (mCall f m) := fun F G H σ e i hR Q p =>
  h F G H σ e i hR _ (p.bind is_h fun vs a e1 G1 H1 i1 s1 R1 r1 p1 => by
    rw [List.append_nil]
    refine ⟨G1, a, ⟨i1.gh, i1.tp⟩, r1.1, ?_⟩
    revert p1
    cases f a with
    | ok b u => exact fun p1 v G' H' Hx j hr => p1 v G' H' H' (i1.after j fun _ z => absurd z List.not_mem_nil) j.g0 ⟨hr.1, rfl⟩ (R_after j R1)
    | ex c u => exact id
    | bad => exact id)
theorem d_X {K : PySem.W.Frag} {cx : Str → Addr} {E : XK} {N : List Str} {vs : List V} {Q : VK} {rr : RS V ρ} {t : TS} {mb : ε → So ε ρ} {ra : IR (List V) α} {e0 : α → ε} {dn : Option ρ} (hs : SX ⟨K, E, cx⟩ R rr t mb)
    (h0 : ∀ G H vs a, Sub G H → ra K G H vs a → R.rel K ⟨G, H, [], fun _ => none, fun _ => none⟩ G H (start N vs) (e0 a)) (hd : ∀ b, dn = some b → ∀ F G H, rr.rel K F G H .non b H) (h : spX K cx ra rr (fun a => (mb (e0 a)).run dn) vs H Q E) :
    t { nx := fun _ H' => Q .non H', rt := Q } (start N vs) H := by
  obtain ⟨G, a, s, hr, p⟩ := h
  have p : PostX K cx ⟨G, H, [], fun _ => none, fun _ => none⟩ rr Q E ((mb (e0 a)).run dn) := p
  refine hs ⟨G, H, [], fun _ => none, fun _ => none⟩ G H _ (e0 a) (.start s) (h0 G H vs a s.1 hr) _ ?_
  cases z : mb (e0 a) with
  | rt b e =>
    rw [z] at p
    exact fun v σ' G' H' H1 i _ hv _ => p v G' H' H1 i hv
  | nx e =>
    rw [z] at p
    cases dn with
    | none => exact False.elim p
    | some b => exact fun σ' G' H' i _ _ => p .non G' H' H' i (hd b rfl _ _ _)
  | ex c e =>
    rw [z] at p
    exact fun cls d σ' G' H' i _ _ hx => p cls d G' H' i hx
  | bk e => rw [z] at p; exact False.elim p
  | ct e => rw [z] at p; exact False.elim p
  | bad => rw [z] at p; exact False.elim p
theorem len_X {K : PySem.W.Frag} {cx : Str → Addr} {ra : IR (List V) α} {rr : RS V ρ} {f : α → Rs Unit ρ} {n : Nat} (h : ALen ra n) : ∀ vs H Q E, spX K cx ra rr f vs H Q E → vs.length = n := fun vs H Q E ⟨G, a, _, hr, _⟩ => h _ _ _ _ _ hr
def mRaise (c : Str) : ε → So ε ρ := fun e => .ex ⟨c, none⟩ e
theorem s_rz {rr : RS V ρ} {c : Str} : SX M R rr (tRz M.E (M.cx c)) (mRaise c) := fun F G H σ e i hR D p => p (.ref (M.cx c)) none σ G H i .refl hR ⟨rfl, rfl⟩
def rX (cx : Str → Addr) : Rep Xc := ⟨fun K G v c => ∃ a d, v = .ref a ∧ G a = some (exq a (.ref (cx c.name)) d) ∧ match c.fld with
  | none => d = none
  | some (f, i) => ∃ dd, d = some dd ∧ G dd = some (.xd [(f, .int i)]), fun {K G G' v c} s ⟨a, d, h1, h2, h3⟩ => ⟨a, d, h1, s _ _ h2, by
    revert h3
    cases c.fld with
    | none => exact id
    | some p => exact fun ⟨dd, h4, h5⟩ => ⟨dd, h4, s _ _ h5⟩⟩⟩
theorem rX_d {cx : Str → Addr} {K : PySem.W.Frag} {G H : Hp} {v : V} {c : Xc} (s : Sub G H) (h : (rX cx).rel K G v c) : ∃ a d, v = .ref a ∧ H a = some (exq a (.ref (cx c.name)) d) ∧ dOk H d := by
  obtain ⟨a, d, h1, h2, h3⟩ := h
  refine ⟨a, d, h1, s _ _ h2, fun dd hd => ?_⟩
  revert h3
  cases c.fld with
  | none => exact fun h3 => by have h3 : d = none := h3; rw [h3] at hd; cases hd
  | some p =>
    rintro ⟨d2, h4, h5⟩
    rw [h4] at hd
    cases hd
    exact ⟨_, s _ _ h5⟩
def rCls (v : V) : Rep Unit := ⟨fun _ _ w _ => w = v, fun _ h => h⟩
def gIsX (ns : List Str) (c : Str) (p : Xc × Unit) : Option Bool := if p.1.name ∈ ns then some (isa p.1.name c) else none
theorem v_isX {K : PySem.W.Frag} {cx : Str → Addr} {ns cs : List Str} {c : Str} (xk : Xk K cx ns cs) (hc : c ∈ cs) : VR K (rIsX K) (aCons (ir (rX cx)) (aOne (ir (rCls (.ref (cx c)))))) rB (gIsX ns c) := fun G H v a b Q s ⟨x, ws, h0, h1, y, h2, h3⟩ hg k => by
  subst h0 h2
  obtain ⟨hn, rfl⟩ := of_ite hg
  obtain ⟨L, d, rfl, h4, h5⟩ := rX_d s h1
  cases h3
  exact ⟨L, _, d, _, .ref (cx c), _, rfl, h4, h5, xk.ex _ hn, fun u hu => by cases hu; rfl, xk.kt _ hn _ hc, k _ G H (.refl s) rfl⟩
def gIsV (ns : List Str) (p : Xc × Unit) : Option Bool := if p.1.name ∈ ns then some true else none
theorem v_isV {K : PySem.W.Frag} {cx : Str → Addr} {ns cs : List Str} (xk : Xk K cx ns cs) : VR K (rIsX K) (aCons (ir (rX cx)) (aOne (ir (rCls (.ty "ValueError"))))) rB (gIsV ns) := fun G H v a b Q s ⟨x, ws, h0, h1, y, h2, h3⟩ hg k => by
  subst h0 h2
  obtain ⟨hn, rfl⟩ := of_ite hg
  obtain ⟨L, d, rfl, h4, h5⟩ := rX_d s h1
  cases h3
  exact ⟨L, _, d, _, .type "ValueError", _, rfl, h4, h5, xk.ex _ hn, fun u hu => by cases hu; rfl, xk.ve _ hn, k _ G H (.refl s) rfl⟩
/-- a tuple of classes -/
def rClsT (cs : List Addr) : Rep Unit := ⟨fun _ G v _ => ∃ t, v = .ref t ∧ G t = some (.tup (cs.map V.ref)), fun s ⟨t, h1, h2⟩ => ⟨t, h1, s _ _ h2⟩⟩
def tRefs (cs : List Addr) : TA := cs.foldr (fun c t => tCons (tC (.ref c)) t) tNil
theorem tRefs_go {cs : List Addr} {σ : Sg} {H : Hp} : ∀ {Q : List V → Hp → Prop}, Q (cs.map V.ref) H → tRefs cs σ H Q := by
  induction cs with
  | nil => exact fun h => h
  | cons c cs ih => exact fun {Q} h => ih (Q := fun ws H1 => Q (.ref c :: ws) H1) h
theorem x_clsT {cs : List Addr} (hl : cs.length ≤ 100) : EX M R (tTup (tRefs cs)) (fz (rClsT cs)) (mC ()) := fun F G H σ e i hR Q p => by
  refine tRefs_go (Q := fun xs H1 => xs.length ≤ sizeLine ∧ ∀ q, H1 q = none → Q (.ref q) (upd H1 q (.tup xs))) ⟨by rw [List.length_map, sizeLine_eq]; omega, fun q hq => ?_⟩
  have st := Stp.new (o := .tup (cs.map V.ref)) i.gh hq
  exact p (.ref q) _ _ _ (i.step st) st.g ⟨⟨q, rfl, upd_same⟩, rfl⟩ (R.mono st.g st.h st.n hR)
def gIsXT (ns cs : List Str) (p : Xc × Unit) : Option Bool := if p.1.name ∈ ns then some (cs.any fun c => isa p.1.name c) else none
theorem kit_any {K : PySem.W.Frag} {cx : Str → Addr} {ns cs : List Str} (xk : Xk K cx ns cs) {n : Str} (hn : n ∈ ns) : ∀ ds : List Str, (∀ c ∈ ds, c ∈ cs) → PySem.W.kitAny K (.ref (cx n)) ((ds.map cx).map Value.ref) = some (ds.any fun c => isa n c)
  | [], _ => rfl
  | c :: ds, h => by
    have e := xk.kt n hn c (h c List.mem_cons_self)
    have ih := kit_any xk hn ds fun x hx => h x (List.mem_cons_of_mem _ hx)
    simp only [List.map_cons, PySem.W.kitAny, e, List.any_cons]
    cases hz : isa n c with
    | true => rfl
    | false => simpa using ih
theorem v_isXT {K : PySem.W.Frag} {cx : Str → Addr} {ns cs ds : List Str} (xk : Xk K cx ns cs) (hc : ∀ c ∈ ds, c ∈ cs) : VR K (rIsXT K) (aCons (ir (rX cx)) (aOne (ir (rClsT (ds.map cx))))) rB (gIsXT ns ds) := fun G H v a b Q s ⟨x, ws, h0, h1, y, h2, h3⟩ hg k => by
  subst h0 h2
  obtain ⟨hn, rfl⟩ := of_ite hg
  obtain ⟨L, d, rfl, h4, h5⟩ := rX_d s h1
  obtain ⟨t, rfl, h6⟩ := h3
  exact ⟨L, _, t, d, ds.map cx, _, rfl, h4, h5, xk.ex _ hn, s _ _ h6, kit_any xk hn ds hc, k _ G H (.refl s) rfl⟩
end
section
variable {ε α β ρ : Type} {e : ε} {N C B : ε → Prop} {T : ρ → ε → Prop}
/-- it comes to an end well, or is refused -/
def RsX (x : Rs ε α) (Q : α → ε → Prop) (X : Xc → Prop) : Prop := match x with
  | .ok a e => Q a e | .ex c _ => X c | .bad => False
theorem RsX.imp {x : Rs ε α} {P Q : α → ε → Prop} {X Y : Xc → Prop} (h : RsX x P X) (k : ∀ a e, P a e → Q a e) (l : ∀ c, X c → Y c) : RsX x Q Y := by
  cases x with
  | ok a e => exact k a e h
  | ex c e => exact l c h
  | bad => exact h
end
structure HasX (P : Program) (w : World) (K : PySem.W.Frag) (mg : Str → Option Value) (base : Heap) (x : Str) (ps : List Str) (k : Nat) (sp : Sp) : Prop where
  ex : ∃ (f : Addr) (fd : FuncData), mg x = some (.ref f) ∧ PySem.W.keepIn K (.ref f) = true ∧ Binds K fd ps [] ∧ FnOk P w K mg base (L2.CX P w) k f fd ps sp
theorem pe_hX {X : Cx} {x : Str} {ps : List Str} {k : Nat} {sp : Sp} {p pos : Pos} {e : Expr} {es : List Expr} {t : TA} {W : WX} (h : HasX X.prog X.w X.K X.mg X.base x ps k sp) (tk : Takes X W) (hr : Room k X.A) (hg : Gl X x) (ha : PA X (e :: es) t) (hdb : (x == ("__debug__" : Str)) = false := by decide)
    (he : starEach (e :: es) X.env = (false, eval e X.env) :: starEach es X.env := by rfl) (hpl : (backTo pos (starEach es X.env)).any (·.1) = false := by rfl) :
    PE X (.Call (.Name x p) (e :: es) [] pos) (tCallS sp (WE W) t) := by
  obtain ⟨f, fd, hm, hk, hb, F⟩ := h.ex
  exact pe_callS F hr hg hm hk hb (fun σ => passAt tk σ) ha hdb he hpl
inductive Th where
  | int (i : Int) | bl (b : Bool) | non | str (s : Str) | lst (xs : List Th) | tup (xs : List Th) | dic (kvs : List (Int × Th)) | dct (kvs : List (List Int × Th))
mutual
def thR (G : Hp) : V → Th → Prop
  | v, .int i => v = .int i
  | v, .bl b => v = .bl b
  | v, .non => v = .non
  | v, .str s => v = .str s
  | v, .lst xs => ∃ L vs, v = .ref L ∧ G L = some (.lst vs) ∧ thRs G vs xs
  | v, .tup xs => ∃ L vs, v = .ref L ∧ G L = some (.tup vs) ∧ thRs G vs xs
  | v, .dic kvs => ∃ L ws, v = .ref L ∧ G L = some (.dK ws) ∧ thRd G ws kvs
  | v, .dct kvs => ∃ L ws, v = .ref L ∧ G L = some (.dT ws) ∧ thRt G ws kvs
def thRs (G : Hp) : List V → List Th → Prop
  | vs, [] => vs = []
  | vs, x :: xs => ∃ v ws, vs = v :: ws ∧ thR G v x ∧ thRs G ws xs
def thRd (G : Hp) : List (Key × V) → List (Int × Th) → Prop
  | vs, [] => vs = []
  | vs, x :: xs => ∃ v ws, vs = (.inl x.1, v) :: ws ∧ thR G v x.2 ∧ thRd G ws xs
def thRt (G : Hp) : List (List Key × V) → List (List Int × Th) → Prop
  | vs, [] => vs = []
  | vs, x :: xs => ∃ v ws, vs = (x.1.map Sum.inl, v) :: ws ∧ thR G v x.2 ∧ thRt G ws xs
end
mutual
theorem thR.mono {G G' : Hp} (s : Sub G G') : ∀ {v : V} {t : Th}, thR G v t → thR G' v t
  | v, .int i, h => by unfold thR at h ⊢; exact h
  | v, .bl b, h => by unfold thR at h ⊢; exact h
  | v, .non, h => by unfold thR at h ⊢; exact h
  | v, .str x, h => by unfold thR at h ⊢; exact h
  | v, .lst xs, h => by
    unfold thR at h ⊢
    obtain ⟨L, vs, h1, h2, h3⟩ := h
    exact ⟨L, vs, h1, s _ _ h2, thRs.mono s h3⟩
  | v, .tup xs, h => by
    unfold thR at h ⊢
    obtain ⟨L, vs, h1, h2, h3⟩ := h
    exact ⟨L, vs, h1, s _ _ h2, thRs.mono s h3⟩
  | v, .dic kvs, h => by
    unfold thR at h ⊢
    obtain ⟨L, vs, h1, h2, h3⟩ := h
    exact ⟨L, vs, h1, s _ _ h2, thRd.mono s h3⟩
  | v, .dct kvs, h => by
    unfold thR at h ⊢
    obtain ⟨L, vs, h1, h2, h3⟩ := h
    exact ⟨L, vs, h1, s _ _ h2, thRt.mono s h3⟩
theorem thRs.mono {G G' : Hp} (s : Sub G G') : ∀ {vs : List V} {ts : List Th}, thRs G vs ts → thRs G' vs ts
  | vs, [], h => by unfold thRs at h ⊢; exact h
  | vs, x :: xs, h => by
    unfold thRs at h ⊢
    obtain ⟨v, ws, h1, h2, h3⟩ := h
    exact ⟨v, ws, h1, thR.mono s h2, thRs.mono s h3⟩
theorem thRd.mono {G G' : Hp} (s : Sub G G') : ∀ {vs : List (Key × V)} {ts : List (Int × Th)}, thRd G vs ts → thRd G' vs ts
  | vs, [], h => by unfold thRd at h ⊢; exact h
  | vs, x :: xs, h => by
    unfold thRd at h ⊢
    obtain ⟨v, ws, h1, h2, h3⟩ := h
    exact ⟨v, ws, h1, thR.mono s h2, thRd.mono s h3⟩
theorem thRt.mono {G G' : Hp} (s : Sub G G') : ∀ {vs : List (List Key × V)} {ts : List (List Int × Th)}, thRt G vs ts → thRt G' vs ts
  | vs, [], h => by unfold thRt at h ⊢; exact h
  | vs, x :: xs, h => by
    unfold thRt at h ⊢
    obtain ⟨v, ws, h1, h2, h3⟩ := h
    exact ⟨v, ws, h1, thR.mono s h2, thRt.mono s h3⟩
end
def rTh : Rep Th := ⟨fun _ G v t => thR G v t, fun s h => thR.mono s h⟩
theorem thRs_a2 {G : Hp} {K : PySem.W.Frag} : ∀ {vs : List V} {ts : List Th}, thRs G vs ts ↔ A2 (rTh.rel K G) vs ts
  | vs, [] => by
    unfold thRs
    exact ⟨fun h => by rw [h]; exact .nil, fun h => by cases h; rfl⟩
  | vs, x :: xs => by
    unfold thRs
    constructor
    · rintro ⟨v, ws, rfl, h2, h3⟩
      exact .cons h2 (thRs_a2.mp h3)
    · intro h
      cases h with
      | cons h1 h2 => exact ⟨_, _, rfl, h1, thRs_a2.mpr h2⟩
section
variable {ε α β : Type} {M : Mx} {R : ERep ε}
/-- a cast between frozen values: f tells the other reading -/
def CastR (r : Rep α) (r' : Rep β) (f : α → Option β) : Prop := ∀ K G v a b, r.rel K G v a → f a = some b → r'.rel K G v b
theorem x_cast {t : TE} {r : Rep α} {r' : Rep β} {f : α → Option β} {m : ε → Rs ε α} (c : CastR r r' f) (h : EX M R t (fz r) m) : EX M R t (fz r') (mUn f m) := fun F G H σ e i hR Q p =>
  h F G H σ e i hR _ (p.bind fz_h fun v a e1 G1 H1 i1 s1 R1 r1 p1 => by
    have p1 : Post M R F G1 σ (fz r') Q (.of (f a) e1) := p1
    cases hf : f a with
    | none => rw [hf] at p1; exact p1.elim
    | some b => rw [hf] at p1; exact p1 v G1 H1 H1 i1 .refl ⟨c _ _ _ _ _ r1.1 hf, rfl⟩ R1)
theorem c_int : CastR rI rTh (fun i => some (.int i)) := fun K G v a b h e => by cases e; exact (show thR G v (.int a) by unfold thR; exact h)
theorem c_bl : CastR rB rTh (fun i => some (.bl i)) := fun K G v a b h e => by cases e; exact (show thR G v (.bl a) by unfold thR; exact h)
theorem c_str : CastR rS rTh (fun i => some (.str i)) := fun K G v a b h e => by cases e; exact (show thR G v (.str a) by unfold thR; exact h)
theorem c_non : CastR rN rTh (fun _ => some .non) := fun K G v a b h e => by cases e; exact (show thR G v .non by unfold thR; exact h)
theorem c_lst : CastR (rz (oL rTh)) rTh (fun xs => some (.lst xs)) := fun K G v a b h e => by
  cases e
  obtain ⟨L, ho, h1, h2, vs, rfl, h3⟩ := h
  exact (show thR G v (.lst a) by unfold thR; exact ⟨L, vs, h1, h2, thRs_a2.mpr h3⟩)
theorem c_tup : CastR (rz (oT rTh)) rTh (fun xs => some (.tup xs)) := fun K G v a b h e => by
  cases e
  obtain ⟨L, ho, h1, h2, vs, rfl, h3⟩ := h
  exact (show thR G v (.tup a) by unfold thR; exact ⟨L, vs, h1, h2, thRs_a2.mpr h3⟩)
theorem thRt_dr {G : Hp} {K : PySem.W.Frag} : ∀ {vs : List (List Key × V)} {ts : List (List Int × Th)}, thRt G vs ts ↔ DR kTup rTh K G vs ts
  | vs, [] => by
    unfold thRt DR
    exact ⟨fun h => by rw [h]; exact .nil, fun h => by cases h; rfl⟩
  | vs, x :: xs => by
    unfold thRt
    constructor
    · rintro ⟨v, ws, rfl, h2, h3⟩
      exact .cons ⟨rfl, h2⟩ (thRt_dr.mp h3)
    · intro h
      unfold DR at h
      cases h with
      | cons h1 h2 =>
        rename_i p ps
        obtain ⟨k, v⟩ := p
        obtain ⟨e1, e2⟩ := h1
        have e1 : k = x.1.map Sum.inl := e1
        subst e1
        exact ⟨v, _, rfl, e2, thRt_dr.mpr h2⟩
theorem c_dct : CastR (rz (oD rTh)) rTh (fun kvs => some (.dct kvs)) := fun K G v a b h e => by
  cases e
  obtain ⟨L, ho, h1, h2, vs, rfl, h3⟩ := h
  exact (show thR G v (.dct a) by unfold thR; exact ⟨L, vs, h1, h2, thRt_dr.mpr h3⟩)
/-- casts of the items -/
theorem c_L {r : Rep α} {r' : Rep β} {f : α → β} (c : CastR r r' fun a => some (f a)) : CastR (rz (oL r)) (rz (oL r')) (fun xs => some (xs.map f)) := fun K G v a b h e => by
  cases e
  obtain ⟨L, ho, h1, h2, vs, rfl, h3⟩ := h
  refine ⟨L, _, h1, h2, vs, rfl, ?_⟩
  clear h2
  induction h3 with
  | nil => exact .nil
  | cons h1 _ ih => exact .cons (c _ _ _ _ _ h1 rfl) ih
theorem c_T {r : Rep α} {r' : Rep β} {f : α → β} (c : CastR r r' fun a => some (f a)) : CastR (rz (oT r)) (rz (oT r')) (fun xs => some (xs.map f)) := fun K G v a b h e => by
  cases e
  obtain ⟨L, ho, h1, h2, vs, rfl, h3⟩ := h
  refine ⟨L, _, h1, h2, vs, rfl, ?_⟩
  clear h2
  induction h3 with
  | nil => exact .nil
  | cons h1 _ ih => exact .cons (c _ _ _ _ _ h1 rfl) ih
def asT : Th → Option (List Th) | .tup xs => some xs | _ => none
def asI : Th → Option Int | .int i => some i | _ => none
theorem c_asI : CastR rTh rI asI := fun K G v a b h e => by
  cases a with
  | int i =>
    cases e
    have h : thR G v (.int b) := h
    unfold thR at h
    exact h
  | _ => cases e
def kindOf : Th → String
  | .int _ => "int" | .bl _ => "bool" | .non => "NoneType" | .str _ => "str" | .lst _ => "list" | .tup _ => "tuple" | .dic _ => "dict" | .dct _ => "dict"
def isK (T k : String) : Bool := k == T || (k == "bool" && T == "int")
def isT (T : String) (t : Th) : Bool := isK T (kindOf t)
def kinds : List String := ["int", "bool", "NoneType", "str", "list", "tuple", "dict"]
theorem kind_mem (t : Th) : kindOf t ∈ kinds := by cases t <;> simp [kindOf, kinds]
theorem th_ty {K : PySem.W.Frag} {G H : Hp} {v : V} {t : Th} (s : Sub G H) (h : thR G v t) : TyX K H v (.type (kindOf t)) := by
  cases t with
  | int i => unfold thR at h; rw [h]; exact .base (.int i)
  | bl b => unfold thR at h; rw [h]; exact .base (.bl b)
  | non => unfold thR at h; rw [h]; exact .base .non
  | str x => unfold thR at h; rw [h]; exact .base (.str x)
  | lst xs => unfold thR at h; obtain ⟨L, vs, h1, h2, h3⟩ := h; rw [h1]; exact .base (.lst (s _ _ h2))
  | tup xs => unfold thR at h; obtain ⟨L, vs, h1, h2, h3⟩ := h; rw [h1]; exact .base (.tup (s _ _ h2))
  | dic xs => unfold thR at h; obtain ⟨L, vs, h1, h2, h3⟩ := h; rw [h1]; exact .base (.dK (s _ _ h2))
  | dct xs => unfold thR at h; obtain ⟨L, vs, h1, h2, h3⟩ := h; rw [h1]; exact .base (.dT (s _ _ h2))
def gIsTh (T : String) (p : Th × Unit) : Option Bool := some (isT T p.1)
theorem v_isTh {K : PySem.W.Frag} {T : String} (hk : ∀ (K : PySem.W.Frag) (t : Th), PySem.W.kitOne K (.type (kindOf t)) (.type T) = some (isT T t)) : VR K (rIsi K) (aCons (ir rTh) (aOne (ir (rTy T)))) rB (gIsTh T) := fun G H v a c Q s ⟨x, ws, h0, h1, y, h2, h3⟩ hg k => by
  cases hg; subst h0 h2
  rw [show y = .ty T from h3]
  exact ⟨x, _, _, _, isT T a.1, rfl, .ty T, th_ty s h1, hk K a.1, k _ G H (.refl s) rfl⟩
theorem k_int (K : PySem.W.Frag) (t : Th) : PySem.W.kitOne K (.type (kindOf t)) (.type "int") = some (isT "int" t) := kit_ty ((by decide +kernel : ∀ k ∈ kinds, kitB k "int" = some (isK "int" k)) _ (kind_mem t))
theorem k_bool (K : PySem.W.Frag) (t : Th) : PySem.W.kitOne K (.type (kindOf t)) (.type "bool") = some (isT "bool" t) := kit_ty ((by decide +kernel : ∀ k ∈ kinds, kitB k "bool" = some (isK "bool" k)) _ (kind_mem t))
end
open LamX (CodeO TabB LamS lamEnv lamCx)
/-- the lambda's code object c' was in the table, or is new -/
def MadeL (P : Addr) (q : Str) (ps : Array Value) (H : Hp) (c' : Addr) (H1 : Hp) : Prop :=
  (H1 = H ∧ ∃ pos : Pos, codeAmong pos ps.toList = some (.ref c')) ∨ (H c' = none ∧ ∃ pos : Pos, H1 = upd (upd H P (.tbl (ps ++ #[rawInt pos.line, rawInt pos.col, .ref c']))) c' (CodeO c' q))
section
variable {X : Cx} {pins : List (Addr × Obj)} {σ : L2.St} {H HZ : Hp} {s s1 : Shared}
theorem lam_mk {c P : Addr} {ps : Array Value} {params : Arguments} {body : Expr} {scope : Scope} {pos : Pos} {E Q : Value → Shared → Prop} (I : Inv X pins σ H s) (TB : TabB X.base X.mg c P) (hcode : X.env.code = .ref c)
    (hP : H P = some (.tbl ps)) (ht : TriplesOk ps.toList) (ha : ∀ pos cv, codeAmong pos ps.toList = some cv → ∃ c, cv = .ref c ∧ H c = some (CodeO c (X.env.qual ++ "<lambda>")))
    (hdef : defaultsOf params X.env = ([], [])) (hfree : ∀ y ∈ scope.names, y.2 = .free → ∃ c, X.env.cells.lookup y.1 = some c)
    (h : ∀ (f c' : Addr) (pm ctv : Value) (H1 : Hp) (s' : Shared), Inv X pins σ H1 s' → MadeL P (X.env.qual ++ "<lambda>") ps H c' H1 →
      s'.heap.get? f = some (PySem.W.kla_obj "<lambda>" (X.env.qual ++ "<lambda>") params body scope (cloFrom X.env.cells scope.names []) pm c' ctv) → H1 f = none ∧ f ∉ frs X.stack → H1 c' = some (CodeO c' (X.env.qual ++ "<lambda>")) → Q (.ref f) s') :
    wpAny (model X.prog X.w) X.A (eval (.Lambda params body scope pos) X.env) Q E s := by
  refine PySem.W.kla_eval hdef ?_
  have tab : s.heap.get? P = some { cls := .none, data := .fields ps } := I.hok P _ hP
  have bm : s.heap.BuiltinsAt X.mg P := TB.bm.keeps I.bk
  have out : ∀ f, s.heap.objs.size ≤ f → f ∉ frs X.stack := fun f hf z => by
    rcases List.mem_cons.mp (I.stkSub _ z) with e | e
    · exact absurd (e ▸ I.lt) (Nat.not_lt.mpr hf)
    · exact I.nofs hf e
  cases hc : codeAmong pos ps.toList with
  | some cv =>
    obtain ⟨c', rfl, hco⟩ := ha pos cv hc
    refine PySem.W.kla_makeFunctionHit (mg := X.mg) (c := c) (P := P) (ps := ps) (closure_ok hfree) I.ok.glob (I.mod.glob.keeps I.bk) hcode (TB.code.keeps I.bk) tab ht hc bm fun ctv h' tk hx hsz => ?_
    exact h h'.objs.size c' _ ctv H _ (I.kept fun b o e => Heap.get?_push_of_some _ (hx b o e)) (.inl ⟨rfl, pos, hc⟩) (Heap.get?_push_size _ rfl) ⟨I.hok.fresh hsz, out _ hsz⟩ hco
  | none =>
    refine PySem.W.kla_makeFunction (mg := X.mg) (c := c) (P := P) (ps := ps) (closure_ok hfree) I.ok.glob (I.mod.glob.keeps I.bk) hcode (TB.code.keeps I.bk) tab ht hc TB.gP bm fun c' ctv h' tk hx hge hlt hrec htb => ?_
    obtain ⟨_, oc, vs, t, e2, hoc, hd, hv⟩ := hrec
    cases e2
    have big : s.heap.objs.size ≤ h'.objs.size := Nat.le_trans hge (Nat.le_of_lt hlt)
    have nC : H c' = none := I.hok.fresh hge
    refine h h'.objs.size c' _ ctv _ _ (LamX.inv_table (t' := tk) (more := #[rawInt pos.line, rawInt pos.col, .ref c']) I hP (fun b o hb e => Heap.get?_push_of_some _ (hx b o hb e)) (Heap.get?_push_of_some _ htb) hge ⟨oc, vs, t, Heap.get?_push_of_some _ hoc, hd, hv⟩)
      (.inr ⟨nC, pos, rfl⟩) (Heap.get?_push_size _ rfl) ⟨?_, out _ big⟩ upd_same
    rw [upd_ne (Nat.ne_of_gt hlt), upd_ne (Nat.ne_of_gt (Nat.lt_of_lt_of_le (Heap.lt_size tab) big))]
    exact I.hok.fresh big
/-- the lambda is called: what it lets out goes where the slots σZ of the caller say -/
abbrev TLm := XK → Hp → VK → Prop
def tAct (i : Nat) (q : Str) (f c' : Addr) (tl : TLm) (E : L2.St → XK) : TE := fun σ H Q => σ[i]? = some (some (.ref f)) ∧ H c' = some (CodeO c' q) ∧ tl (E σ) H Q
theorem pe_actS {Ng : List Str} {qg : Str} {sg : Scope} {g f c' : Addr} {cdg pm ctv : Value} {params : Arguments} {body : Expr} {scope : Scope} {k i : Nat} {a : Str} {pn : List (Addr × Obj)} {xe : Value → Shared → Prop} {W : WX} {tb : XK → TE} {p1 p2 : Pos}
    (I : Inv X pins σ H s) (L : LamS X.env.scope scope) (hf : s.heap.get? f = some (PySem.W.kla_obj "<lambda>" (X.env.qual ++ "<lambda>") params body scope (cloFrom X.env.cells scope.names []) pm c' ctv)) (hfn : H f = none ∧ f ∉ frs X.stack)
    (hbind : bindArgs (PySem.W.kla_fn "<lambda>" (X.env.qual ++ "<lambda>") params body scope (cloFrom X.env.cells scope.names []) pm (.ref c') ctv) ⟨[], []⟩ = pure [])
    (tk : Takes ((cxOf CX0 X.prog X.w X.K X.mg X.base Ng qg sg g cdg X.A X.stack s H E0).tr pn xe) W) (hr : Room (k + 1) (X.A.deeper (envOfC qg sg s.heap.objs.size g cdg)))
    (hbody : ∀ (A : Around) (outer : List Env) (s : Shared) (H : Hp) (E : XK), Room k (A.deeper (lamEnv X scope s.heap.objs.size f c')) → PE (lamCx X A outer s H E scope f c') body (tb E))
    (hN : Ng[i]? = some a) (hv : Vis sg a) (hd : (a == ("__debug__" : Str)) = false) (hcd : (a == ("__classdict__" : Str)) = false) :
    PE ((cxOf CX0 X.prog X.w X.K X.mg X.base Ng qg sg g cdg X.A X.stack s H E0).tr pn xe) (.Call (.Name a p1) [] [] p2) (tAct i (X.env.qual ++ "<lambda>") f c' (fun E HZ Q => tb E σ HZ Q) (WE W)) := by
  refine ⟨fun pZ sZ σZ HZ Q IZ ⟨hs, hc, ht⟩ => ?_⟩
  refine wpAny_Call_Name_kw (thn ((pe_var (pos := p1) (i := i) hN hv hd hcd).run pZ sZ σZ HZ (fun v H1 => v = .ref f ∧ H1 = HZ) IZ ⟨.ref f, hs, rfl, rfl⟩) fun u s1 ⟨v, H1, I1, r1, ev, eH⟩ => ?_)
  subst ev eH
  obtain rfl : u = Value.ref f := r1
  have at1 := I1.base.keep f _ hf hfn.1 hfn.2 (fun z => nomatch (show f ∈ ([] : List Addr) from z))
  refine PySem.W.callWith_F0 ⟨_, _, _, _, at1⟩ ?_
  obtain ⟨⟨oc, vs, t, hoc, hdc, hvc⟩, _, _⟩ := I1.hok c' _ hc
  have rc : codeAny (model X.prog X.w) (X.A.deeper (envOfC qg sg s.heap.objs.size g cdg)) (.call (.ref f) ⟨[], []⟩) (CR (L2.CX X.prog X.w) (envOfC qg sg s.heap.objs.size g cdg :: X.stack) X.prog X.w H1 s1 Q (WE W σZ)) s1 := by
    refine PySem.W.kla_callFunE hr.depth at1 rfl L.co L.gen rfl ⟨c', oc, vs, t, rfl, hoc, hdc, hvc⟩ ?_
    rw [hbind]
    refine wpAny_pure (wpAny_newFunctionEnv (fun y hy => (L.own y hy).2) (fun y hy => absurd hy (by simp)) (fun h₁ hns hsb => ⟨I1.nolimit.fresh _ hsb, ?_⟩) L.kind)
    show codeAny _ _ (.expr body (lamEnv X scope s1.heap.objs.size f c')) _ _
    have J := LamX.lam_start2 (E := WE W σZ) (f := f) (c' := c') (tk := s1.toks + ([] : List (Str × Value)).length) I L I1.env0 hr.hd I1.base hns (fun b o e => hsb.extBut b o (Nat.ne_of_lt (Heap.lt_size e)) (Heap.get?_push_of_some _ e))
    refine PySem.W.kla_codeExpr (wpAny_mono ((hbody _ _ s1 H1 (WE W σZ) (hr.deeper _)).run [] _ _ H1 Q J ht) (fun v s' hq => ?_) fun e s' hq => hq)
    obtain ⟨w', H', J', rv, q⟩ := hq
    exact ⟨w', H', J'.os, J'.bare, J'.base, J'.hok, rv, q⟩
  refine wpAny_call (codeAny_mono rc fun r s' hq => ?_)
  match r, hq with
  | .error e, hq => exact passAt tk σZ pZ H1 s1 e s' I1 hq
  | .ok (.ret u), hq => exact I1.after hq
  | .ok .next, hq => exact False.elim hq
  | .ok .brk, hq => exact False.elim hq
  | .ok .cont, hq => exact False.elim hq
end
/-- what a def makes of the lambda that it gets: its promise TT, of the lambda's name, address, code object and reading -/
abbrev TLT := Str → Addr → Addr → TLm → Hp → VK → Prop
structure GivT (P : Program) (w : World) (K : PySem.W.Frag) (mg : Str → Option Value) (base : Heap) (k : Nat) (x a : Str) (TT : TLT) : Prop where
  ex : ∃ (g : Addr) (pg : Arguments) (bg : List Stmt) (sg : Scope) (dV kV doc pm cdv ct oc : Value) (an od : Option Addr) (osl : Array (Option Value)) (Ng : List Str),
    mg x = some (.ref g) ∧ PySem.W.keepIn K (.ref g) = true ∧ K.lookup g = some ⟨oc, od, .func (PySem.W.fnOf x x pg bg sg dV kV doc pm an cdv ct), osl⟩ ∧ PySem.W.codeIn K cdv x = true ∧ L2.Binds K (PySem.W.fnOf x x pg bg sg dV kV doc pm an cdv ct) [a] [] ∧
    FnScope Ng [a] sg ∧ Ng[0]? = some a ∧ Vis sg a ∧
    ∀ (q : Str) (A : Around) (outer : List Env) (f c' : Addr) (s : Shared) (H : Hp) (Q : VK) (tl : TLm), Room k (A.deeper (envOfC x sg s.heap.objs.size g cdv)) →
      (∀ (W : WX) (pn : List (Addr × Obj)) (xe : Value → Shared → Prop) (p1 p2 : Pos), Takes ((cxOf CX0 P w K mg base Ng x sg g cdv A outer s H E0).tr pn xe) W →
        PE ((cxOf CX0 P w K mg base Ng x sg g cdv A outer s H E0).tr pn xe) (.Call (.Name a p1) [] [] p2) (tAct 0 q f c' tl (WE W))) →
      TT q f c' tl H Q → ∃ t, PSs (cxOf CX0 P w K mg base Ng x sg g cdv A outer s H E0).nox bg t ∧ t { nx := fun _ H' => Q .non H', rt := Q } (L2.start Ng [.ref f]) H
def tLamG (P : Addr) (q : Str) (TT : TLT) (t : XK → TE) : TE := fun σ H Q => ∃ ps, H P = some (.tbl ps) ∧ TriplesOk ps.toList ∧ (∀ pos cv, codeAmong pos ps.toList = some cv → ∃ c, cv = .ref c ∧ H c = some (CodeO c q)) ∧
  ∀ f c' H1, MadeL P q ps H c' H1 → TT q f c' (fun E H' Q' => t E σ H' Q') H1 Q
/-- x(lambda: body) -/
theorem pe_lam {X : Cx} {TT : TLT} {x a : Str} {c P : Addr} {k : Nat} {params : Arguments} {body : Expr} {scope : Scope} {t : XK → TE} {p lpos pos : Pos} (gv : GivT X.prog X.w X.K X.mg X.base (k + 1) x a TT) (hg : Gl X x)
    (TB : TabB X.base X.mg c P) (hcode : X.env.code = .ref c) (hr : Room (k + 2) X.A) (L : LamS X.env.scope scope) (hdef : defaultsOf params X.env = ([], []))
    (hbind : ∀ (q : Str) (cl : List (Str × Addr)) (pm cv ctv : Value), bindArgs (PySem.W.kla_fn "<lambda>" q params body scope cl pm cv ctv) ⟨[], []⟩ = pure [])
    (hbody : ∀ (A : Around) (outer : List Env) (s : Shared) (H : Hp) (E : XK) (f c' : Addr), Room k (A.deeper (lamEnv X scope s.heap.objs.size f c')) → PE (lamCx X A outer s H E scope f c') body (t E))
    (hdb : (x == ("__debug__" : Str)) = false := by decide) (hd : (a == ("__debug__" : Str)) = false := by decide) (hcd : (a == ("__classdict__" : Str)) = false := by decide) :
    PE X (.Call (.Name x p) [.Lambda params body scope lpos] [] pos) (tLamG P (X.env.qual ++ "<lambda>") TT t) := by
  obtain ⟨g, pg, bg, sg, dV, kV, doc, pm, cdv, ct, oc, an, od, osl, Ng, hm, hk, lk, hcg, hb, Sg, hNg, hva, go⟩ := gv.ex
  refine ⟨fun pins s σ H Q I ⟨ps, hP, ht, ha, h⟩ => ?_⟩
  refine wpAny_Call_Name_kw (ld_glob I hg hm ?_ hdb)
  refine PySem.W.callWith_K (h₀ := X.base) I.ok.mod.kin hk ?_ (by rfl) (by rfl)
  show wpAny _ _ (spliced ((false, eval (.Lambda params body scope lpos) X.env) :: backTo pos (starEach [] X.env))) _ _ s
  refine Calls.spliced_cons (lam_mk I TB hcode hP ht ha hdef (L.has I.ok) fun f c' pm' ctv H1 s' I1 hM hf hfn hco => ?_)
  refine Calls.spliced_nil ⟨I1.kIn, ?_⟩
  have rc : codeAny (model X.prog X.w) X.A (.call (.ref g) ⟨[.ref f], []⟩) (CR CX0 X.stack X.prog X.w H1 s' Q E0) s' := by
    refine LamX.run_ofS (N := Ng) (ps := [a]) (us := [.ref f]) (vs := [.ref f]) lk hcg Sg hr I1.env0 (hb s' [.ref f] I1.kIn rfl) (.cons rfl .nil) rfl fun hr' => ?_
    obtain ⟨t', ht', hq'⟩ := go _ X.A X.stack f c' s' H1 Q (fun E H' Q' => t E σ H' Q') hr' (fun W pn xe p1 p2 tk => pe_actS (i := 0) I1 L hf hfn (hbind _ _ _ _ _) tk hr' (fun A outer s H E hr2 => hbody A outer s H E f c' hr2) hNg hva hd hcd) (h f c' H1 hM)
    exact ⟨t', ht'.nox, hq'⟩
  refine wpAny_call (codeAny_mono rc fun r s2 hq => ?_)
  match r, hq with
  | .error e, hq => exact False.elim hq
  | .ok (.ret u), hq => exact I1.after hq
  | .ok .next, hq => exact False.elim hq
  | .ok .brk, hq => exact False.elim hq
  | .ok .cont, hq => exact False.elim hq
open LamX (CodeO)
def TabG (P : Addr) (q : Str) (G H : Hp) : Prop := ∃ ps : Array Value, H P = some (.tbl ps) ∧ G P = none ∧ TriplesOk ps.toList ∧ ∀ pos cv, codeAmong pos ps.toList = some cv → ∃ c, cv = .ref c ∧ G c = some (CodeO c q)
def ownT (P : Addr) (F : Frm) : Prop := P ∈ F.ws ∧ F.X P = none ∧ F.Y P = none
theorem TabG.mono {P : Addr} {q : Str} {G G' H H' : Hp} (t : TabG P q G H) (g : Sub G G') (h : Sub H H') (n : ∀ b, H b ≠ none → G' b ≠ none → G b ≠ none) : TabG P q G' H' := by
  obtain ⟨ps, h1, h2, h3, h4⟩ := t
  refine ⟨ps, h _ _ h1, ?_, h3, fun pos cv hc => let ⟨c, e1, e2⟩ := h4 pos cv hc; ⟨c, e1, g _ _ e2⟩⟩
  cases z : G' P with
  | none => rfl
  | some u => exact absurd h2 (n P (by rw [h1]; intro z; cases z) (by rw [z]; intro z; cases z))
theorem TabG.hide {P L : Addr} {q : Str} {G H : Hp} (t : TabG P q G H) (n : P ≠ L) : TabG P q G (hide H L) := by
  obtain ⟨ps, h1, h2, h3, h4⟩ := t
  exact ⟨ps, by rw [hide_ne n]; exact h1, h2, h3, h4⟩
theorem TabG.show {P L : Addr} {q : Str} {G H : Hp} (t : TabG P q G (Ws.hide H L)) : P ≠ L ∧ TabG P q G H := by
  obtain ⟨ps, h1, h2, h3, h4⟩ := t
  exact ⟨(hide_some h1).1, ps, (hide_some h1).2, h2, h3, h4⟩
def eTb {ε : Type} (P : Addr) (q : Str) (R : ERep ε) : ERep ε :=
  ⟨fun K F G H σ e => TabG P q G H ∧ ownT P F ∧ R.rel K F G (hide H P) σ e,
   fun g h n ⟨t, o, r⟩ => ⟨t.mono g h n, o, R.mono g h.hide (fun b hb hn => n b (hide_sub.ne hb) hn) r⟩,
   fun {K F G H σ e D o'} ⟨t, ⟨o1, o2, o3⟩, r⟩ => by
    obtain ⟨n, t'⟩ := t.show
    exact ⟨t', ⟨o1, (upd_ne n).trans o2, o3⟩, R.lock (by rw [hide_comm]; exact r)⟩,
   fun {K F G H σ e D o'} ⟨t, ⟨o1, o2, o3⟩, r⟩ => by
    have n : P ≠ D := fun z => by
      rw [z] at o2
      exact nomatch (show some o' = none from upd_same.symm.trans o2)
    exact ⟨t.hide n, ⟨o1, (upd_ne n).symm.trans o2, o3⟩, by rw [hide_comm]; exact R.unlock r⟩⟩
section
variable {α β ε : Type} {R : ERep ε} {n : Nat} {r : Rep α} {q : ORep α} {own : Frm → Addr → Prop} {l : Ln ε α} {P : Addr} {z : Str}
theorem FrAt.sT (h : FrAt R n r l) : FrAt (eTb P z R) n r l :=
  ⟨fun ⟨_, _, b⟩ e => h.rd b e, fun ⟨t, o, b⟩ e => ⟨t, o, h.wr b e⟩, fun ⟨t, o, b⟩ => ⟨t, o, h.kl b⟩, fun ⟨t, o, b⟩ => ⟨t, o, h.wn b⟩, fun ⟨_, _, b⟩ s ⟨t, o, b'⟩ => ⟨t, o, h.rs b s b'⟩⟩
theorem OwAt.sT (h : OwAt R n own q l) : OwAt (eTb P z R) n own q l := by
  refine ⟨?_, ?_, ?_, fun ⟨t, o, b⟩ => ⟨t, o, h.kl b⟩⟩
  · rintro K F G H σ e a ⟨t, o, b⟩ e1
    obtain ⟨L, ho, h1, h2, h3, h4, h5, h6⟩ := h.rd b e1
    obtain ⟨n1, h2'⟩ := hide_some h2
    exact ⟨L, ho, h1, h2', h3, h4, h5, t.hide n1.symm, o, by rw [hide_comm]; exact h6⟩
  · rintro K F G H σ e L ho a ⟨t, o, b⟩ h1 h2 h3 h4 h5
    obtain ⟨n1, t'⟩ := t.show
    exact ⟨t', o, h.bk (by rw [hide_comm]; exact b) h1 (by rw [hide_ne n1.symm]; exact h2) h3 h4 h5⟩
  · rintro K F G H σ e L ho a ⟨t, o, b⟩ h2 h3 h4 h5
    obtain ⟨n1, t'⟩ := t.show
    exact ⟨t', o, h.wr (by rw [hide_comm]; exact b) (by rw [hide_ne n1.symm]; exact h2) h3 h4 h5⟩
end
section
variable {ν ν' α β γ ε ρ ι : Type} {M : Mx} {R : ERep ε} {F : Frm} {G G1 H : Hp} {σ : Sg} {D : Ends}
def LamOK (K : PySem.W.Frag) (cx : Str → Addr) (r : Rep α) (tl : TLm) (G : Hp) (x : Rs Unit α) : Prop := ∀ E G1 H1 Q, Sub G G1 → (Sub G1 H1 ∧ Tps G1 H1) → PostX K cx ⟨G1, H1, [], fun _ => none, fun _ => none⟩ (fz r) Q E x → tl E H1 Q
def rLam (cx : Str → Addr) (r : Rep α) (q : Str) (f c' : Addr) (tl : TLm) : Rep (Rs Unit α) := ⟨fun K G v x => v = .ref f ∧ G c' = some (CodeO c' q) ∧ LamOK K cx r tl G x, fun s ⟨h1, h2, h3⟩ => ⟨h1, s _ _ h2, fun E G1 H1 Q s1 => h3 E G1 H1 Q (s.trans s1)⟩⟩
/-- the names of a def without those that hold what may change -/
structure Wk (R : ERep ε) (kl : ε → ε) : Prop where
  go : ∀ {K F F' G H H' σ e}, R.rel K F G H σ e → R.rel K F' G H' σ (kl e)
theorem Wk.nil : Wk eNil id := ⟨fun h => h⟩
theorem Wk.fr {r : Rep α} {kl : ε → ε} (h : Wk R kl) : Wk (eFr r R) (fun e => (e.1, kl e.2)) := ⟨fun ⟨o, σ', h1, h2, h3⟩ => ⟨o, σ', h1, h2, h.go h3⟩⟩
def Rs.out (x : Rs ε α) : Rs Unit α := match x with
  | .ok a _ => .ok a () | .ex c _ => .ex c () | .bad => .bad
@[simp] theorem Rs.out_ok {a : α} {e : ε} : (Rs.ok a e).out = .ok a () := rfl
@[simp] theorem Rs.out_ex {c : Xc} {e : ε} : (Rs.ex c e : Rs ε α).out = .ex c () := rfl
@[simp] theorem Rs.out_bad : (Rs.bad : Rs ε α).out = .bad := rfl
/-- told(lambda: ..): told's mirror of what comes of the lambda -/
def mLam (told : Rs Unit α → Rs Unit β) (kl : ε → ε) (m : ε → Rs ε α) : ε → Rs ε β := fun e => (told (m (kl e)).out).run e
def ttM (K : PySem.W.Frag) (cx : Str → Addr) (r : Rep α) (rr : RS V β) (told : Rs Unit α → Rs Unit β) : TLT := fun q f c' tl H Q => spD K cx0 (aOne (ir (rLam cx r q f c' tl))) rr told [.ref f] H Q E0
theorem made_iv {P c' : Addr} {q : Str} {ps : Array Value} {H1 : Hp} {e : ε} (i : IV F G H) (hR : (eTb P q R).rel M.K F G H σ e) (hP : H P = some (.tbl ps)) (hm : MadeL P q ps H c' H1) :
    ∃ G1, IV F G1 H1 ∧ Sub G G1 ∧ G1 c' = some (CodeO c' q) ∧ (eTb P q R).rel M.K F G1 H1 σ e := by
  obtain ⟨⟨ps', h1, h2, h3, h4⟩, o, r⟩ := hR
  rw [hP] at h1
  cases h1
  rcases hm with ⟨rfl, pos, hc⟩ | ⟨hn, pos, rfl⟩
  · obtain ⟨c, e1, e2⟩ := h4 pos _ hc
    cases e1
    exact ⟨G, i, .refl, e2, ⟨ps, hP, h2, h3, h4⟩, o, r⟩
  · have nP : c' ≠ P := fun z => by rw [z, hP] at hn; cases hn
    have gc : G c' = none := i.gh.no hn
    have hH1 : ∀ b u, b ≠ P → H b = some u → upd (upd H P (.tbl (ps ++ #[rawInt pos.line, rawInt pos.col, .ref c']))) c' (CodeO c' q) b = some u := fun b u hb hu => by rw [upd_ne (ne_of_none hu hn), upd_ne hb]; exact hu
    have hg : Sub G (upd G c' (CodeO c' q)) := sub_upd gc
    have notP : ∀ b u, G b = some u → b ≠ P := fun b u hu z => by rw [z, h2] at hu; cases hu
    have hPP : upd (upd H P (.tbl (ps ++ #[rawInt pos.line, rawInt pos.col, .ref c']))) c' (CodeO c' q) P = some (.tbl (ps ++ #[rawInt pos.line, rawInt pos.col, .ref c'])) := by rw [upd_ne nP.symm, upd_same]
    refine ⟨upd G c' (CodeO c' q), ⟨?_, i.g0.trans hg, fun b hb hn1 => ?_, fun b u hb hu => ?_, fun b hb => ?_, fun b u hu => ?_, fun b hb => ?_, fun b u hu => ?_, fun b hb => ?_, fun b xs hb => ?_⟩, hg, upd_same, ⟨⟨_, hPP, ?_, ?_, ?_⟩, o, ?_⟩⟩
    · intro b u hu
      by_cases hb : b = c'
      · subst hb
        rw [upd_same] at hu ⊢
        exact hu
      · rw [upd_ne hb] at hu
        exact hH1 b u (notP b u hu) (i.gh b u hu)
    · rcases upd_some hn1 with rfl | z
      · exact absurd hn (i.al _ hb)
      · exact i.new b hb z
    · exact hH1 b u (fun z => hb (z ▸ o.1)) (i.fr b u hb hu)
    · by_cases hp : b = P
      · rw [hp, hPP]; intro z; cases z
      · cases z : H b with
        | none => exact absurd z (i.al b hb)
        | some u => rw [hH1 b u hp z]; intro z; cases z
    · exact hH1 b u (fun z => by rw [z, o.2.1] at hu; cases hu) (i.xs b u hu)
    · have : b ≠ c' := fun z => by subst z; exact absurd hn (i.xs.ne hb)
      rw [upd_ne this]
      exact i.xg b hb
    · exact hH1 b u (fun z => by rw [z, o.2.2] at hu; cases hu) (i.ys b u hu)
    · have : b ≠ c' := fun z => by subst z; exact absurd hn (i.ys.ne hb)
      rw [upd_ne this]
      exact i.yg b hb
    · by_cases hc : b = c'
      · subst hc
        rw [upd_same] at hb
        cases hb
      · rw [upd_ne hc] at hb
        by_cases hp : b = P
        · subst hp
          rw [upd_same] at hb
          cases hb
        · rw [upd_ne hp] at hb
          exact hg _ _ (i.tp b xs hb)
    · rw [upd_ne nP.symm]
      exact h2
    · rw [show (ps ++ #[rawInt pos.line, rawInt pos.col, Value.ref c']).toList = ps.toList ++ [rawInt pos.line, rawInt pos.col, .ref c'] by simp]
      exact PySem.TriplesOk_snoc _ _ _ _ h3
    · intro p' cv hcv
      rw [show (ps ++ #[rawInt pos.line, rawInt pos.col, Value.ref c']).toList = ps.toList ++ [rawInt pos.line, rawInt pos.col, .ref c'] by simp] at hcv
      rcases LamX.among_app _ h3 hcv with z | z
      · obtain ⟨c, e1, e2⟩ := h4 p' cv z
        exact ⟨c, e1, hg _ _ e2⟩
      · exact ⟨c', z, upd_same⟩
    · refine R.mono hg (fun b u hb => ?_) (fun b hb hn1 => ?_) r
      · obtain ⟨nb, hb⟩ := hide_some hb
        rw [hide_ne nb]
        exact hH1 b u nb hb
      · rcases upd_some hn1 with rfl | z
        · exact absurd hn (hide_sub.ne hb)
        · exact z
def tTryA (K : PySem.W.Frag) (c : Value) (i j jf : Nat) (q : Str) (f c' : Addr) (tl : TLm) : TS := fun D σ H => tAsg (tAct 0 q f c' tl (WE (wK K c i (fun _ _ _ => tAsg (tVar i) (gName j)) D))) (gName jf) D σ H
def mTryA (ns : List Str) (la : Ln ε (Rs Unit α)) (l : Ln ε (Option Xc)) (le : Ln ε γ) (lf : Ln ε β) (g : α → β) : ε → So ε ρ := fun e => match la.get e with
  | some (.ok a _) => .nx (lf.put (some (g a)) e)
  | some (.ex c _) => if c.name ∈ ns then .nx (le.put none (l.put (some (some c)) (le.put none e))) else .bad
  | _ => .bad
theorem s_tryA {K : PySem.W.Frag} {cx cx' : Str → Addr} {E0' : XK} {rr : RS V ρ} {i j jf : Nat} {ns cs : List Str} {q : Str} {f c' : Addr} {tl : TLm} {la : Ln ε (Rs Unit α)} {l : Ln ε (Option Xc)} {le : Ln ε γ} {lf : Ln ε β} {g : α → β} {re : Rep γ} {rf : Rep β} {r : Rep α} (xk : Xk K cx ns cs)
    (ata : FrAt R 0 (rLam cx r q f c' tl) la) (aty : FrAt R j (rO (rX cx)) l) (ate : FrAt R i re le) (fe : Fg R i le) (atf : FrAt R jf rf lf) (hg : ∀ G v a, r.rel K G v a → rf.rel K G v (g a)) :
    SX ⟨K, E0', cx'⟩ R rr (tTryA K (.ref (cx "SideError")) i j jf q f c' tl) (mTryA ns la l le lf g) := fun F G H σ e iv hR D p => by
  unfold mTryA at p
  cases ha : la.get e with
  | none => rw [ha] at p; exact p.elim
  | some x =>
    rw [ha] at p
    obtain ⟨v, h1, rfl, h2, h3⟩ := ata.rd hR ha
    refine ⟨h1, iv.gh _ _ h2, ?_⟩
    refine h3 _ G H _ .refl ⟨iv.gh, iv.tp⟩ ?_
    cases x with
    | bad => exact p.elim
    | ok a u => exact fun v G' H' H1 j z => p _ G' H' (iv.after j fun _ z => absurd z List.not_mem_nil) j.g0 (atf.wr (R_after (M := ⟨K, E0', cx'⟩) j hR) (hg _ _ _ z.1))
    | ex c u =>
      dsimp only at p
      by_cases hn : c.name ∈ ns
      · rw [if_pos hn] at p
        rintro cls d G' H' jv ⟨rfl, hf⟩
        have i1 := iv.after jv fun _ z => absurd z List.not_mem_nil
        have R1 := R_after (M := ⟨K, E0', cx'⟩) jv hR
        refine ⟨xk.em _ hn, fun a ha => ⟨.ref a, List.getElem?_set_self (fe.ln R1), ha, ?_⟩⟩
        have st := Stp.new (o := exq a (.ref (cx c.name)) d) i1.gh ha
        have R3 := fe.st (.ref a) (R.mono st.g st.h st.n R1)
        have hx : (rX cx).rel K (upd G' a (exq a (.ref (cx c.name)) d)) (.ref a) c := by
          refine ⟨a, d, rfl, upd_same, ?_⟩
          obtain ⟨nm, fl⟩ := c
          cases fl with
          | none => exact hf
          | some q =>
            obtain ⟨dd, h4, h5⟩ := hf
            exact ⟨dd, h4, st.g _ _ h5⟩
        exact p _ _ _ (i1.step st) (jv.g0.trans st.g) (ate.wn (aty.wr (v := .ref a) (a := some c) R3 ⟨(fun z => (nomatch z)), hx⟩))
      · rw [if_neg hn] at p
        exact p.elim
end
open PySem.W (tabObj)
def rReprA (K : PySem.W.Frag) : List V → Hp → VK → Prop := fun xs H Q => ∃ (v : V) (d : PyData), xs = [v] ∧ Dp K H v d ∧ d.depth ≤ 60 ∧ small 80 d = true ∧ cost 80 d ≤ 16777216 ∧ Q (.str d.shown) H
theorem call_reprA {X : Cx} (hg : X.A.guards = some []) (hu : X.A.units + 64 < cLine) : CallR X (.builtin "repr") (rReprA X.K) := by
  intro pins s σ H vs us Q I r h
  obtain ⟨v, d, rfl, hd, hz, hs, hc, q⟩ := h
  cases r with
  | cons r1 r2 =>
    cases r2
    cases hd with
    | non => cases r1; exact PySem.P.repr_of_none ⟨.str "None", H, I.tok _, ⟨_, rfl⟩, q⟩
    | bl b =>
      cases r1
      cases b with
      | true => exact PySem.P.repr_of_bool ⟨.str (PyData.shown (.bool true)), H, I.tok _, ⟨_, rfl⟩, q⟩
      | false => exact PySem.P.repr_of_bool ⟨.str (PyData.shown (.bool false)), H, I.tok _, ⟨_, rfl⟩, q⟩
    | int i =>
      obtain ⟨t, rfl⟩ := r1
      have h' : i.natAbs < 10 ^ 80 := by simpa [small] using hs
      exact PySem.P.repr_of_int (log_small (by decide) h') ⟨.str (PyData.shown (.int i)), H, I.tok _, ⟨_, rfl⟩, q⟩
    | str x =>
      obtain ⟨t, rfl⟩ := r1
      refine PySem.P.repr_of_str ⟨.str (PyData.shown (.str x)), H, I.tok _, ⟨_, rfl⟩, q⟩ ?_
      rw [sizeLine_eq]
      exact hc
    | lst a b => exact call_reprD hg hu pins s σ H _ _ Q I (.cons r1 .nil) ⟨_, _, 80, rfl, .lst a b, hz, by decide, hs, by rw [sizeLine_eq]; exact hc, q⟩
    | tup a b => exact call_reprD hg hu pins s σ H _ _ Q I (.cons r1 .nil) ⟨_, _, 80, rfl, .tup a b, hz, by decide, hs, by rw [sizeLine_eq]; exact hc, q⟩
section
variable {K : PySem.W.Frag} {α β γ ε ρ : Type} {w : World} {P : Program}
/-- data that is only shown -/
structure Er (α : Type) where
  enc : α → PyData
  dn : Nat
  dep : ∀ a, (enc a).depth ≤ dn
def En.er (E : En α) : Er α := ⟨E.enc, E.dn, E.dep⟩
def Daa (i : IR V α) (E : Er α) : Prop := ∀ K G H v a, Sub G H → i K G H v a → Dp K H v (E.enc a)
theorem Da.er {i : IR V α} {E : En α} (d : Da i E) : Daa i E.er := d
def gReprE (E : Er α) (a : α) : Option Str := if rpOk (E.enc a) = true then some (E.enc a).shown else none
theorem v_reprE {i : IR V α} {E : Er α} (d : Daa i E) (hn : E.dn ≤ 60) : VR K (rReprA K) (aOne i) rS (gReprE E) := fun G H v a b Q s ⟨x, h0, h1⟩ hg k => by
  subst h0
  obtain ⟨hz, rfl⟩ := of_ite hg
  simp only [rpOk, Bool.and_eq_true, decide_eq_true_eq] at hz
  exact ⟨x, _, rfl, d _ _ _ _ _ s h1, Nat.le_trans (E.dep a) hn, hz.1, hz.2, k _ G H (.refl s) rfl⟩
def erS : Er Str := ⟨.str, 0, fun _ => by simp [PyData.depth]⟩
theorem daa_S : Daa (ir rS) erS := fun K G H v a s h => by cases h; exact .str a
def erSum (E : Er α) (E' : Er β) : Er (α ⊕ β) := ⟨fun x => match x with | .inl a => E.enc a | .inr b => E'.enc b, max E.dn E'.dn, fun x => by
    cases x with
    | inl a => exact Nat.le_trans (E.dep a) (Nat.le_max_left _ _)
    | inr b => exact Nat.le_trans (E'.dep b) (Nat.le_max_right _ _)⟩
theorem daa_Sum {r : Rep α} {r' : Rep β} {E : Er α} {E' : Er β} (d : Daa (ir r) E) (d' : Daa (ir r') E') : Daa (ir (rSum r r')) (erSum E E') := fun K G H v x s h => by
  cases x with
  | inl a => exact d _ _ _ _ _ s h
  | inr b => exact d' _ _ _ _ _ s h
def toL (a : α) : Option (α ⊕ β) := some (.inl a)
def toR (b : β) : Option (α ⊕ β) := some (.inr b)
def ofL : α ⊕ β → Option α | .inl a => some a | .inr _ => none
theorem c_toL {r : Rep α} {r' : Rep β} : CastR r (rSum r r') toL := fun K G v a b h e => by cases e; exact h
theorem c_toR {r : Rep α} {r' : Rep β} : CastR r' (rSum r r') toR := fun K G v a b h e => by cases e; exact h
theorem c_ofL {r : Rep α} {r' : Rep β} : CastR (rSum r r') r ofL := fun K G v a b h e => by
  cases a with
  | inl a => cases e; exact h
  | inr a => cases e
def gIsS (b c : Bool) (p : (α ⊕ β) × Unit) : Option Bool := some (match p.1 with | .inl _ => b | .inr _ => c)
theorem v_isiS {r : Rep α} {r' : Rep β} {t t' T : String} {b c : Bool} (kd : Kd (ir r) t) (kd' : Kd (ir r') t') (hk : ∀ K, PySem.W.kitOne K (.type t) (.type T) = some b) (hk' : ∀ K, PySem.W.kitOne K (.type t') (.type T) = some c) :
    VR K (rIsi K) (aCons (ir (rSum r r')) (aOne (ir (rTy T)))) rB (gIsS b c) := fun G H v a d Q s ⟨x, ws, h0, h1, y⟩ hg k => by
  obtain ⟨a1, u⟩ := a
  cases a1 with
  | inl a => exact v_isi kd hk G H v (a, u) d Q s ⟨x, ws, h0, h1, y⟩ hg k
  | inr a => exact v_isi kd' hk' G H v (a, u) d Q s ⟨x, ws, h0, h1, y⟩ hg k
def gPick (p : α × β) (i : Int) : Option (α ⊕ β) := if i = 0 then some (.inl p.1) else if i = 1 then some (.inr p.2) else none
theorem v_pick {r : Rep α} {r' : Rep β} : VR2 K (rIxL K) (rd (oL2 r r')) (ir rI) (rSum r r') gPick := fun G H v w a b c Q s hv hi hg k => by
  unfold gPick at hg
  by_cases h0 : b = 0
  · rw [if_pos h0] at hg
    cases hg
    exact v_l20 G H v w a b _ Q s hv hi (by subst h0; rfl) fun v' G' H' st hr => k v' G' H' st hr
  · rw [if_neg h0] at hg
    by_cases h1 : b = 1
    · rw [if_pos h1] at hg
      cases hg
      exact v_l21 G H v w a b _ Q s hv hi (by subst h1; rfl) fun v' G' H' st hr => k v' G' H' st hr
    · rw [if_neg h1] at hg
      cases hg
end
section
variable {P : Program} {w : World} {K : PySem.W.Frag} {mg : Str → Option Value} {base : Heap} {k : Nat} {f : Addr} {fd : FuncData} {ps : List Str} {sp : Sp}
/-- as okG; what is known besides: the def's code object -/
theorem okGT {x qual : Str} {st : Stmt} {N : List Str} {c : Addr} (F : Fun K x qual st f fd) (hc : fd.code = .ref c) (S : FnScope N ps (defScope st)) (len : ∀ vs H Q E, sp vs H Q E → vs.length = ps.length)
    (hbody : ∀ (A : Around) (outer : List Env) (s : Shared) (H : Hp) (vs : List V) (Q : VK) (E : XK), (A.deeper (envOfC qual (defScope st) s.heap.objs.size f (.ref c))).guards = some [] →
      Room k (A.deeper (envOfC qual (defScope st) s.heap.objs.size f (.ref c))) → sp vs H Q E →
      ∃ t, PSs (cxOf CX0 P w K mg base N qual (defScope st) f (.ref c) A outer s H E).nox (defBody st) t ∧ t { nx := fun _ H' => Q .non H', rt := Q } (start N vs) H) :
    FnG P w K mg base (k + 1) f fd ps sp := by
  obtain ⟨oc, od, kV, doc, pm, an, cdv, ct, osl, rfl, lk, hcd⟩ := F.ex
  have hc : cdv = .ref c := hc
  subst hc
  refine ⟨len, fun A outer s H args us vs Q E hg hr e0 hb r hsp => ?_⟩
  have kept : ∀ b o, base.get? b = some o → s.heap.get? b = some o := fun b o e => (e0.bs b o e).1
  have KX : K.In s.heap := e0.mod.kin.keeps kept
  refine codeAny_call_function hr.depth (KX _ _ lk) rfl S.co S.gen rfl (PySem.W.codeRec_of KX hcd) (hb _ _ _ _ ?_)
  refine wpAny_newFunctionEnv_cells S.kind (fun y hy => ?_) fun env he s1 x => ?_
  · rcases S.par y.1 (List.of_mem_zip (show (y.1, y.2) ∈ ps.zip us from hy)).1 with q | q
    · exact .inl q
    · exact .inr ⟨q, PySem.W.cellsFrom_some _ _ _ (.inl q)⟩
  · subst he
    obtain ⟨t, ht, hq⟩ := hbody A outer s H vs Q E hg (hr.deeper _) hsp
    refine ⟨(e0.mod.nolimit.keeps kept).keeps x.toInCall.keep, codeAny_func (wpAny_mono (ht.nox.run [] s1 (start N vs) H _ (inv_start S hr.hd e0 (len _ _ _ _ hsp) r x) hq) (fun fl s' hs => ?_) fun e s' hs => hs)⟩
    cases fl with
    | ret u => exact let ⟨v, _, H', J, rv, q⟩ := hs; ⟨v, H', J.os, J.bare, J.base, J.hok, rv, q⟩
    | next => exact let ⟨_, H', J, q⟩ := hs; ⟨V.non, H', J.os, J.bare, J.base, J.hok, rfl, q⟩
    | brk => exact let ⟨_, _, _, q⟩ := hs; q.elim
    | cont => exact let ⟨_, _, _, q⟩ := hs; q.elim
theorem tab_code {x : Str} {c Pt : Addr} {oc : Value} {od : Option Addr} {sl : Array (Option Value)} (t : PySem.W.tabIn K x = some (c, Pt)) (a : PySem.W.nsIn K mainGlobals x = some (some (.ref f))) (l : K.lookup f = some ⟨oc, od, .func fd, sl⟩) : fd.code = .ref c := by
  unfold PySem.W.tabIn at t
  rw [a] at t
  dsimp only at t
  rw [l] at t
  dsimp only at t
  split at t
  · rename_i c2 hc
    split at t
    · split at t
      · cases t
        exact hc
      · cases t
    · cases t
  · cases t
end
section
variable {ε α β ρ : Type} {M : Mx} {R : ERep ε}
/-- a call that may raise, as a lambda's body -/
theorem x_callES {K : PySem.W.Frag} {cx : Str → Addr} {E : XK} {t : TA} {ra : IR (List V) α} {r : Rep ρ} {f : α → Rs Unit ρ} {m : ε → Rs ε α} (h : EX ⟨K, E, cx⟩ R t (is ra) m) : EX ⟨K, E, cx⟩ R (tCallS (spX K cx ra (fz r) f) (WE fun cls d _ H => E cls d H) t) (fz r) (mCallE f m) := fun F G H σ e i hR Q p => by
  have := x_callE (r := r) (f := f) h F G H σ e i hR Q p
  unfold tCall at this
  simp only [List.append_nil] at this
  exact this
theorem rp_lam {told : Rs Unit α → Rs Unit β} {kl : ε → ε} {m : ε → Rs ε α} {e : ε} {Q : β → ε → Prop} : RsP (mLam told kl m e) Q = RsP (told (m (kl e)).out) fun b _ => Q b e := by
  unfold mLam
  exact rp_run
end
def qLam (x : Str) (sc : Scope) : Str := (envOfC x sc 0 0 .none).qual ++ "<lambda>"
section
variable {ε ε' α β γ ρ ι κ : Type} {X : Xc → Prop}
def RxP0 (X : Xc → Prop) (x : Rs ε α) (Q : α → ε → Prop) : Prop := match x with
  | .ok a e => Q a e | .ex c _ => X c | .bad => False
def SxP0 (X : Xc → Prop) (x : So ε ρ) (N C B : ε → Prop) (T : ρ → ε → Prop) : Prop := match x with
  | .nx e => N e | .ct e => C e | .bk e => B e | .rt a e => T a e | .ex c _ => X c | .bad => False
variable {Q : α → ε → Prop} {N C B : ε → Prop} {T : ρ → ε → Prop} {a : α} {e : ε}
theorem RxP0.imp {x : Rs ε α} {P Q : α → ε → Prop} (h : RxP0 X x P) (k : ∀ a e, P a e → Q a e) : RxP0 X x Q := by
  cases x with
  | ok a e => exact k a e h
  | ex c e => exact h
  | bad => exact h
theorem SxP0.imp {x : So ε ρ} {N N' C C' B B' : ε → Prop} {T T' : ρ → ε → Prop} (h : SxP0 X x N C B T) (n : ∀ e, N e → N' e) (c : ∀ e, C e → C' e) (b : ∀ e, B e → B' e) (t : ∀ a e, T a e → T' a e) : SxP0 X x N' C' B' T' := by
  cases x with
  | nx e => exact n e h
  | ct e => exact c e h
  | bk e => exact b e h
  | rt a e => exact t a e h
  | ex _ _ => exact h
  | bad => exact h
theorem rx_ok_0 : RxP0 X (.ok a e) Q = Q a e := propext ⟨fun h => h, fun h => h⟩
theorem rx_bad_0 : RxP0 X (.bad : Rs ε α) Q = False := propext ⟨fun h => h, fun h => h⟩
theorem rx_of_0 {o : Option α} : RxP0 X (.of o e) Q = OpP0 o fun a => Q a e := by cases o <;> rfl
theorem rx_bind_0 {x : Rs ε β} {f : β → ε → Rs ε α} : RxP0 X (x.bind f) Q = RxP0 X x fun b e1 => RxP0 X (f b e1) Q := by cases x <;> rfl
theorem rx_run_0 {x : Rs Unit α} : RxP0 X (x.run e) Q = RsP0 x fun b _ => Q b e := by cases x <;> rfl
theorem rx_ite_0 {c : Prop} [Decidable c] {x y : Rs ε α} : RxP0 X (if c then x else y) Q = if c then RxP0 X x Q else RxP0 X y Q := by split <;> rfl
theorem sx_nx_0 : SxP0 X (.nx e : So ε ρ) N C B T = N e := propext ⟨fun h => h, fun h => h⟩
theorem sx_ct_0 : SxP0 X (.ct e : So ε ρ) N C B T = C e := propext ⟨fun h => h, fun h => h⟩
theorem sx_bk_0 : SxP0 X (.bk e : So ε ρ) N C B T = B e := propext ⟨fun h => h, fun h => h⟩
theorem sx_rt_0 {r : ρ} : SxP0 X (.rt r e) N C B T = T r e := propext ⟨fun h => h, fun h => h⟩
theorem sx_so_0 {x : Rs ε α} {f : α → ε → So ε ρ} : SxP0 X (x.so f) N C B T = RxP0 X x fun a e1 => SxP0 X (f a e1) N C B T := by cases x <;> rfl
theorem sx_ite_0 {c : Prop} [Decidable c] {x y : So ε ρ} : SxP0 X (if c then x else y) N C B T = if c then SxP0 X x N C B T else SxP0 X y N C B T := by split <;> rfl
theorem sx_seq_0 {m n : ε → So ε ρ} : SxP0 X (mSeq m n e) N C B T = SxP0 X (m e) (fun e1 => SxP0 X (n e1) N C B T) C B T := by unfold mSeq; cases m e <;> rfl
theorem sx_kill_0 {k : ε → ε} {m : ε → So ε ρ} : SxP0 X (mKill k m e) N C B T = SxP0 X (m e) (fun e1 => N (k e1)) (fun e1 => C (k e1)) (fun e1 => B (k e1)) T := by unfold mKill; cases m e <;> rfl
theorem sx_for_0 {m : ε → Rs ε (List α)} {pt : α → ε → ε} {b : ε → So ε ρ} : SxP0 X (mFor m pt b e) N C B T = RxP0 X (m e) fun xs e1 => SxP0 X (mLoop (fun x e => b (pt x e)) xs e1) N C B T := by unfold mFor; rw [sx_so_0]
theorem sx_ret_0 {m : ε → Rs ε ρ} : SxP0 X (mRet m e) N C B T = RxP0 X (m e) T := by unfold mRet; rw [sx_so_0]; rfl
theorem sx_drop_0 {m : ε → Rs ε α} : SxP0 X (mDrop m e : So ε ρ) N C B T = RxP0 X (m e) fun _ e1 => N e1 := by unfold mDrop; rw [sx_so_0]; rfl
theorem sx_set_0 {l : Ln ε α} {m : ε → Rs ε α} : SxP0 X (mSet l m e : So ε ρ) N C B T = RxP0 X (m e) fun a e1 => N (l.put (some a) e1) := by unfold mSet; rw [sx_so_0]; rfl
theorem sx_asgN_0 {m : ε → Rs ε α} {pt : α → ε → ε} : SxP0 X (mAsgN m pt e : So ε ρ) N C B T = RxP0 X (m e) fun a e1 => N (pt a e1) := by unfold mAsgN; rw [sx_so_0]; rfl
theorem sx_if_0 {c : ε → Rs ε Bool} {m n : ε → So ε ρ} : SxP0 X (mIfS c m n e) N C B T = RxP0 X (c e) fun b e1 => if b = true then SxP0 X (m e1) N C B T else SxP0 X (n e1) N C B T := by
  unfold mIfS; rw [sx_so_0]; congr; funext b e1; exact sx_ite_0
theorem sx_next_0 : SxP0 X (mNext e : So ε ρ) N C B T = N e := propext ⟨fun h => h, fun h => h⟩
theorem sx_mbk_0 : SxP0 X (mBrk e : So ε ρ) N C B T = B e := propext ⟨fun h => h, fun h => h⟩
theorem sx_mct_0 : SxP0 X (mCt e : So ε ρ) N C B T = C e := propext ⟨fun h => h, fun h => h⟩
theorem rx_un_0 {g : β → Option α} {m : ε → Rs ε β} : RxP0 X (mUn g m e) Q = RxP0 X (m e) fun b e1 => OpP0 (g b) fun a => Q a e1 := by unfold mUn; rw [rx_bind_0]; congr; funext b e1; exact rx_of_0
theorem rx_op_0 {g : β → γ → Option α} {m : ε → Rs ε β} {n : ε → Rs ε γ} : RxP0 X (mOp g m n e) Q = RxP0 X (m e) fun b e1 => RxP0 X (n e1) fun c e2 => OpP0 (g b c) fun a => Q a e2 := by
  unfold mOp; rw [rx_bind_0]; congr; funext b e1; rw [rx_bind_0]; congr; funext c e2; exact rx_of_0
theorem rx_var_0 {l : Ln ε α} : RxP0 X (mVar l e) Q = OpP0 (l.get e) fun a => Q a e := rx_of_0
theorem rx_move_0 {l : Ln ε α} : RxP0 X (mMove l e) Q = OpP0 (l.get e) fun a => Q a (l.put none e) := rx_of_0
theorem rx_c_0 {a : α} : RxP0 X (mC a e) Q = Q a e := propext ⟨fun h => h, fun h => h⟩
theorem rx_opL_0 {g : β → γ → Option α} {l : Ln ε β} {m : ε → Rs ε γ} : RxP0 X (mOpL g l m e) Q = OpP0 (l.get e) fun _ => RxP0 X (m e) fun c e1 => OpP0 (l.get e1) fun b => OpP0 (g b c) fun a => Q a e1 := by
  unfold mOpL
  cases l.get e with
  | none => rfl
  | some x =>
    simp only [rx_bind_0, OpP0]
    congr; funext c e1; rw [rx_var_0]; congr; funext b; exact rx_of_0
theorem rx_pair_0 {m : ε → Rs ε α} {n : ε → Rs ε β} {Q : α × β → ε → Prop} : RxP0 X (mPair m n e) Q = RxP0 X (m e) fun a e1 => RxP0 X (n e1) fun b e2 => Q (a, b) e2 := by unfold mPair; rw [rx_bind_0]; congr; funext a e1; rw [rx_bind_0]; rfl
theorem rx_pairL_0 {l : Ln ε α} {n : ε → Rs ε β} {Q : α × β → ε → Prop} : RxP0 X (mPairL l n e) Q = OpP0 (l.get e) fun _ => RxP0 X (n e) fun b e1 => OpP0 (l.get e1) fun a => Q (a, b) e1 := by
  unfold mPairL
  cases l.get e with
  | none => rfl
  | some x =>
    simp only [rx_bind_0, OpP0]
    congr; funext c e1; rw [rx_var_0]; rfl
theorem rx_cons_0 {m : ε → Rs ε α} {n : ε → Rs ε (List α)} {Q : List α → ε → Prop} : RxP0 X (mCons m n e) Q = RxP0 X (m e) fun a e1 => RxP0 X (n e1) fun b e2 => Q (a :: b) e2 := by unfold mCons; rw [rx_bind_0]; congr; funext a e1; rw [rx_bind_0]; rfl
theorem rx_call_0 {f : β → Rs Unit α} {m : ε → Rs ε β} : RxP0 X (mCall f m e) Q = RxP0 X (m e) fun b e1 => RsP0 (f b) fun a _ => Q a e1 := by unfold mCall; rw [rx_bind_0]; congr; funext b e1; exact rx_run_0
theorem rx_callI_0 {l : Ln ε ι} {f : ι → β → Rs ι α} {m : ε → Rs ε β} : RxP0 X (mCallI l f m e) Q = OpP0 (l.get e) fun _ => RxP0 X (m e) fun b e1 => OpP0 (l.get e1) fun s => RsP0 (f s b) fun a s' => Q a (l.put (some s') (l.put none e1)) := by
  unfold mCallI
  cases l.get e with
  | none => rfl
  | some x =>
    simp only [rx_bind_0, OpP0]
    congr; funext b e1
    cases l.get e1 with
    | none => rfl
    | some s => cases h : f s b <;> simp only [h] <;> rfl
theorem rx_bm_0 {l : Ln ε ι} {g : ι → β → Option (α × ι)} {m : ε → Rs ε β} : RxP0 X (mBM l g m e) Q = OpP0 (l.get e) fun _ => RxP0 X (m e) fun b e1 => OpP0 (l.get e1) fun s => OpP0 (g s b) fun p => Q p.1 (l.put (some p.2) (l.put none e1)) := by
  unfold mBM
  cases l.get e with
  | none => rfl
  | some x =>
    simp only [rx_bind_0, OpP0]
    congr; funext b e1
    cases l.get e1 with
    | none => rfl
    | some s => cases h : g s b <;> simp only [h] <;> rfl
theorem rx_bm0_0 {l : Ln ε ι} {g : ι → Unit → Option (α × ι)} : RxP0 X (mBM0 l g e) Q = OpP0 (l.get e) fun _ => OpP0 (l.get e) fun s => OpP0 (g s ()) fun p => Q p.1 (l.put (some p.2) (l.put none e)) := rx_bm_0
theorem sx_setI_0 {l : Ln ε γ} {g : γ → α → β → Option γ} {mi : ε → Rs ε α} {m : ε → Rs ε β} : SxP0 X (mSetI l g mi m e : So ε ρ) N C B T = RxP0 X (m e) fun y e1 => OpP0 (l.get e1) fun _ => RxP0 X (mi e1) fun x e2 => OpP0 (l.get e2) fun s => OpP0 (g s x y) fun s' => N (l.put (some s') (l.put none e2)) := by
  unfold mSetI
  rw [sx_so_0]; congr; funext y e1
  cases l.get e1 with
  | none => rfl
  | some s =>
    simp only [sx_so_0, OpP0]
    congr; funext x e2
    cases l.get e2 with
    | none => rfl
    | some s => cases h : g s x y <;> simp only [h] <;> rfl
theorem rx_not_0 {m : ε → Rs ε Bool} {Q : Bool → ε → Prop} : RxP0 X (mNot m e) Q = RxP0 X (m e) fun b e1 => Q (!b) e1 := by unfold mNot; rw [rx_bind_0]; rfl
theorem rx_and_0 {m n : ε → Rs ε Bool} {Q : Bool → ε → Prop} : RxP0 X (mAnd m n e) Q = RxP0 X (m e) fun b e1 => if b = true then RxP0 X (n e1) Q else Q false e1 := by unfold mAnd; rw [rx_bind_0]; congr; funext b e1; exact rx_ite_0
theorem rx_or_0 {m n : ε → Rs ε Bool} {Q : Bool → ε → Prop} : RxP0 X (mOr m n e) Q = RxP0 X (m e) fun b e1 => if b = true then Q true e1 else RxP0 X (n e1) Q := by unfold mOr; rw [rx_bind_0]; congr; funext b e1; exact rx_ite_0
theorem rx_if_0 {c : ε → Rs ε Bool} {m n : ε → Rs ε α} : RxP0 X (mIf c m n e) Q = RxP0 X (c e) fun b e1 => if b = true then RxP0 X (m e1) Q else RxP0 X (n e1) Q := by unfold mIf; rw [rx_bind_0]; congr; funext b e1; exact rx_ite_0
theorem rx_chain_0 {g : α → β → Option Bool} {g' : β → γ → Option Bool} {m : ε → Rs ε α} {n : ε → Rs ε β} {k : ε → Rs ε γ} {Q : Bool → ε → Prop} : RxP0 X (mChain g g' m n k e) Q = RxP0 X (m e) fun a e1 => RxP0 X (n e1) fun b e2 => OpP0 (g a b) fun c => if c = true then RxP0 X (k e2) fun d e3 => OpP0 (g' b d) fun z => Q z e3 else Q false e2 := by
  unfold mChain
  rw [rx_bind_0]; congr; funext a e1; rw [rx_bind_0]; congr; funext b e2; rw [rx_bind_0, rx_of_0]; congr; funext c; rw [rx_ite_0, rx_bind_0]
  split
  · congr; funext d e3; exact rx_of_0
  · rfl
theorem rx_mSome_0 {m : ε → Rs ε α} {Q : Option α → ε → Prop} : RxP0 X (mSome m e) Q = RxP0 X (m e) fun a e1 => Q (some a) e1 := by unfold mSome; rw [rx_bind_0]; rfl
theorem rx_mNone_0 {m : ε → Rs ε Unit} {Q : Option α → ε → Prop} : RxP0 X (mNone m e) Q = RxP0 X (m e) fun a e1 => Q none e1 := by unfold mNone; rw [rx_bind_0]; rfl
theorem rx_part_0 {m : ε → Rs ε Int} {Q : Option Int → ε → Prop} : RxP0 X (mPart m e) Q = RxP0 X (m e) fun a e1 => Q (some a) e1 := by unfold mPart; rw [rx_bind_0]; rfl
theorem rx_sl_0 {g : β → Option Int → Option Int → Option α} {m : ε → Rs ε β} {lo hi : ε → Rs ε (Option Int)} : RxP0 X (mSl g m lo hi e) Q = RxP0 X (m e) fun b e1 => RxP0 X (lo e1) fun l e2 => RxP0 X (hi e2) fun u e3 => OpP0 (g b l u) fun a => Q a e3 := by
  unfold mSl
  rw [rx_bind_0]; congr; funext b e1; rw [rx_bind_0]; congr; funext l e2; rw [rx_bind_0]; congr; funext u e3; exact rx_of_0
theorem rx_slL_0 {g : β → Option Int → Option Int → Option α} {l : Ln ε β} {lo hi : ε → Rs ε (Option Int)} : RxP0 X (mSlL g l lo hi e) Q = OpP0 (l.get e) fun _ => RxP0 X (lo e) fun l1 e2 => RxP0 X (hi e2) fun u e3 => OpP0 (l.get e3) fun b => OpP0 (g b l1 u) fun a => Q a e3 := by
  unfold mSlL
  cases l.get e with
  | none => rfl
  | some x =>
    simp only [rx_bind_0, OpP0]
    congr; funext l1 e2; congr; funext u e3; rw [rx_var_0]; congr; funext b; exact rx_of_0
theorem rx_rng1_0 {m : ε → Rs ε Int} {Q : List Int → ε → Prop} : RxP0 X (mRng1 m e) Q = RxP0 X (m e) fun n e1 => bigI n = true ∧ Q (rng 0 n) e1 := by
  unfold mRng1; rw [rx_bind_0]; congr; funext n e1; rw [rx_ite_0]
  by_cases h : bigI n = true
  · simp [h, rx_ok_0]
  · simp [h, rx_bad_0]
theorem rx_rng2_0 {m : ε → Rs ε (Int × Int)} {Q : List Int → ε → Prop} : RxP0 X (mRng2 m e) Q = RxP0 X (m e) fun n e1 => (bigI n.1 = true ∧ bigI n.2 = true) ∧ Q (rng n.1 n.2) e1 := by
  unfold mRng2; rw [rx_bind_0]; congr; funext n e1; rw [rx_ite_0]
  by_cases h : bigI n.1 = true ∧ bigI n.2 = true
  · simp [h, rx_ok_0]
  · simp [h, rx_bad_0]
theorem rx_enum_0 {m : ε → Rs ε (List α)} {Q : List (Int × α) → ε → Prop} : RxP0 X (mEnum m e) Q = RxP0 X (m e) fun xs e1 => Q (enumF xs) e1 := by unfold mEnum; rw [rx_bind_0]; rfl
theorem rx_lock_0 {l : Ln ε γ} {m : ε → Rs ε α} : RxP0 X (mLock l m e) Q = OpP0 (l.get e) fun x => RsP0 (m (l.put (some x) e)) fun a e1 => Q a (l.put (some x) (l.put none e1)) := by
  unfold mLock
  cases l.get e with
  | none => rfl
  | some x => simp only [OpP0]; cases m (l.put (some x) e) <;> rfl
theorem rx_dget2_0 [DecidableEq κ] {l : Ln ε (List (κ × β))} {m : ε → Rs ε κ} {x : ε → Rs ε β} {Q : β → ε → Prop} : RxP0 X (mDGet2 l m x e) Q = OpP0 (l.get e) fun _ => RxP0 X (m e) fun a e1 => RxP0 X (x e1) fun b e2 => OpP0 (l.get e2) fun kbs => Q ((dget kbs a).getD b) e2 := by
  unfold mDGet2
  cases l.get e with
  | none => rfl
  | some y =>
    simp only [rx_bind_0, OpP0]
    congr; funext a e1; congr; funext b e2; rw [rx_var_0]; rfl
theorem rx_keys_0 {l : Ln ε (List (κ × β))} {Q : List κ → ε → Prop} : RxP0 X (mKeys l e) Q = OpP0 (l.get e) fun kbs => Q (keysOf kbs) e := by unfold mKeys; rw [rx_bind_0, rx_var_0]; rfl
theorem rx_lc_0 {it : ε → Rs ε (List α)} {pt : α → ε → ε} {tt : ε → Rs ε Bool} {te : ε → Rs ε β} {kill : ε → ε} {rst : ε → ε → ε} {Q : List β → ε → Prop} : RxP0 X (mLc it pt tt te kill rst e) Q = RxP0 X (it e) fun xs e1 => xs.length ≤ 1000000 ∧ RxP0 X (lcR pt tt te kill xs (kill e1) []) fun ys e2 => Q ys (rst e1 e2) := by
  unfold mLc; rw [rx_bind_0]; congr; funext xs e1; rw [rx_ite_0]
  by_cases h : xs.length ≤ 1000000
  · simp only [h, if_true, true_and, rx_bind_0]; rfl
  · simp [h, rx_bad_0]
theorem rx_yes_0 {Q : Bool → ε → Prop} : RxP0 X (mYes e) Q = Q true e := propext ⟨fun h => h, fun h => h⟩
theorem rx_runD_0 {x : So ε ρ} {Q : ρ → Unit → Prop} : RxP0 X (x.run none) Q = SxP0 X x (fun _ => False) (fun _ => False) (fun _ => False) fun a _ => Q a () := by cases x <;> rfl
theorem rx_runDS_0 {x : So ε ρ} {d : ρ} {Q : ρ → Unit → Prop} : RxP0 X (x.run (some d)) Q = SxP0 X x (fun _ => Q d ()) (fun _ => False) (fun _ => False) fun a _ => Q a () := by cases x <;> rfl
theorem loopX_0 {b : α → ε → So ε ρ} {xs : List α} {e : ε} (P : Nat → ε → Prop) (h0 : P 0 e) (hs : ∀ i x e, xs[i]? = some x → P i e → SxP0 X (b x e) (P (i + 1)) (P (i + 1)) N T) (hd : ∀ e, P xs.length e → N e) : SxP0 X (mLoop b xs e) N C B T := by
  suffices h : ∀ (ys : List α) (i : Nat) (e : ε), (∀ j x, ys[j]? = some x → xs[i + j]? = some x) → i + ys.length = xs.length → P i e → SxP0 X (mLoop b ys e) N C B T from h xs 0 e (fun j x h => by simpa using h) (by simp) h0
  intro ys
  induction ys with
  | nil => intro i e _ hl p; exact hd e (by simp at hl; rw [← hl]; exact p)
  | cons y ys ih =>
    intro i e hx hl p
    have h1 := hs i y e (by simpa using hx 0 y rfl) p
    unfold mLoop
    revert h1
    cases b y e with
    | nx e1 => exact fun h1 => ih (i + 1) e1 (fun j x h => by rw [Nat.add_assoc, Nat.add_comm 1 j]; exact hx (j + 1) x (by simpa using h)) (by simp at hl; omega) h1
    | ct e1 => exact fun h1 => ih (i + 1) e1 (fun j x h => by rw [Nat.add_assoc, Nat.add_comm 1 j]; exact hx (j + 1) x (by simpa using h)) (by simp at hl; omega) h1
    | bk e1 => exact id
    | rt a e1 => exact id
    | ex c e1 => exact id
    | bad => exact id
inductive RxP {ε α : Type} (X : Xc → Prop) : Rs ε α → (α → ε → Prop) → Prop
  | mk {a : α} {e : ε} {Q : α → ε → Prop} (h : Q a e) : RxP X (.ok a e) Q
  | ex {c : Xc} {e : ε} {Q : α → ε → Prop} (h : X c) : RxP X (.ex c e) Q
inductive SxP {ε ρ : Type} (X : Xc → Prop) : So ε ρ → (ε → Prop) → (ε → Prop) → (ε → Prop) → (ρ → ε → Prop) → Prop
  | nx {e : ε} {N C B : ε → Prop} {T : ρ → ε → Prop} (h : N e) : SxP X (.nx e) N C B T
  | ct {e : ε} {N C B : ε → Prop} {T : ρ → ε → Prop} (h : C e) : SxP X (.ct e) N C B T
  | bk {e : ε} {N C B : ε → Prop} {T : ρ → ε → Prop} (h : B e) : SxP X (.bk e) N C B T
  | rt {a : ρ} {e : ε} {N C B : ε → Prop} {T : ρ → ε → Prop} (h : T a e) : SxP X (.rt a e) N C B T
  | ex {c : Xc} {e : ε} {N C B : ε → Prop} {T : ρ → ε → Prop} (h : X c) : SxP X (.ex c e) N C B T
theorem RxP_eq {x : Rs ε α} {Q : α → ε → Prop} : RxP X x Q = RxP0 X x Q := by
  refine propext ⟨fun h => by cases h with | mk h => exact h | ex h => exact h, fun h => ?_⟩
  cases x with
  | ok a e => exact .mk h
  | ex c e => exact .ex h
  | bad => exact h.elim
theorem SxP_eq {x : So ε ρ} {N C B : ε → Prop} {T : ρ → ε → Prop} : SxP X x N C B T = SxP0 X x N C B T := by
  refine propext ⟨fun h => by cases h with | nx h => exact h | ct h => exact h | bk h => exact h | rt h => exact h | ex h => exact h, fun h => ?_⟩
  cases x with
  | nx e => exact .nx h
  | ct e => exact .ct h
  | bk e => exact .bk h
  | rt a e => exact .rt h
  | ex c e => exact .ex h
  | bad => exact h.elim
theorem RxP.of {x : Rs ε α} {Q : α → ε → Prop} (h : RsP x Q) : RxP X x Q := by cases h with | mk h => exact .mk h
theorem SxP.of {x : So ε ρ} (h : SoP x N C B T) : SxP X x N C B T := by
  cases h with
  | nx h => exact .nx h
  | ct h => exact .ct h
  | bk h => exact .bk h
  | rt h => exact .rt h
theorem RxP.none {x : Rs ε α} {P : α → ε → Prop} (h : RxP (fun _ => False) x P) : RsP x P := by
  cases h with
  | mk h => exact .mk h
  | ex h => exact h.elim
theorem RxP.imp {x : Rs ε α} {P Q : α → ε → Prop} (h : RxP X x P) (k : ∀ a e, P a e → Q a e) : RxP X x Q := by
  simp only [RxP_eq, SxP_eq, RsP_eq, SoP_eq, OpP_eq] at *
  exact RxP0.imp h k
theorem SxP.imp {x : So ε ρ} {N N' C C' B B' : ε → Prop} {T T' : ρ → ε → Prop} (h : SxP X x N C B T) (n : ∀ e, N e → N' e) (c : ∀ e, C e → C' e) (b : ∀ e, B e → B' e) (t : ∀ a e, T a e → T' a e) : SxP X x N' C' B' T' := by
  simp only [RxP_eq, SxP_eq, RsP_eq, SoP_eq, OpP_eq] at *
  exact SxP0.imp h n c b t
theorem rx_ok : RxP X (.ok a e) Q = Q a e := by
  simp only [RxP_eq, SxP_eq, RsP_eq, SoP_eq, OpP_eq]
  exact rx_ok_0
theorem rx_bad : RxP X (.bad : Rs ε α) Q = False := by
  simp only [RxP_eq, SxP_eq, RsP_eq, SoP_eq, OpP_eq]
  exact rx_bad_0
theorem rx_of {o : Option α} : RxP X (.of o e) Q = OpP o fun a => Q a e := by
  simp only [RxP_eq, SxP_eq, RsP_eq, SoP_eq, OpP_eq]
  exact rx_of_0
theorem rx_bind {x : Rs ε β} {f : β → ε → Rs ε α} : RxP X (x.bind f) Q = RxP X x fun b e1 => RxP X (f b e1) Q := by
  simp only [RxP_eq, SxP_eq, RsP_eq, SoP_eq, OpP_eq]
  exact rx_bind_0
theorem rx_run {x : Rs Unit α} : RxP X (x.run e) Q = RsP x fun b _ => Q b e := by
  simp only [RxP_eq, SxP_eq, RsP_eq, SoP_eq, OpP_eq]
  exact rx_run_0
theorem rx_ite {c : Prop} [Decidable c] {x y : Rs ε α} : RxP X (if c then x else y) Q = if c then RxP X x Q else RxP X y Q := by
  simp only [RxP_eq, SxP_eq, RsP_eq, SoP_eq, OpP_eq]
  exact rx_ite_0
theorem sx_nx : SxP X (.nx e : So ε ρ) N C B T = N e := by
  simp only [RxP_eq, SxP_eq, RsP_eq, SoP_eq, OpP_eq]
  exact sx_nx_0
theorem sx_ct : SxP X (.ct e : So ε ρ) N C B T = C e := by
  simp only [RxP_eq, SxP_eq, RsP_eq, SoP_eq, OpP_eq]
  exact sx_ct_0
theorem sx_bk : SxP X (.bk e : So ε ρ) N C B T = B e := by
  simp only [RxP_eq, SxP_eq, RsP_eq, SoP_eq, OpP_eq]
  exact sx_bk_0
theorem sx_rt {r : ρ} : SxP X (.rt r e) N C B T = T r e := by
  simp only [RxP_eq, SxP_eq, RsP_eq, SoP_eq, OpP_eq]
  exact sx_rt_0
theorem sx_so {x : Rs ε α} {f : α → ε → So ε ρ} : SxP X (x.so f) N C B T = RxP X x fun a e1 => SxP X (f a e1) N C B T := by
  simp only [RxP_eq, SxP_eq, RsP_eq, SoP_eq, OpP_eq]
  exact sx_so_0
theorem sx_ite {c : Prop} [Decidable c] {x y : So ε ρ} : SxP X (if c then x else y) N C B T = if c then SxP X x N C B T else SxP X y N C B T := by
  simp only [RxP_eq, SxP_eq, RsP_eq, SoP_eq, OpP_eq]
  exact sx_ite_0
theorem sx_seq {m n : ε → So ε ρ} : SxP X (mSeq m n e) N C B T = SxP X (m e) (fun e1 => SxP X (n e1) N C B T) C B T := by
  simp only [RxP_eq, SxP_eq, RsP_eq, SoP_eq, OpP_eq]
  exact sx_seq_0
theorem sx_kill {k : ε → ε} {m : ε → So ε ρ} : SxP X (mKill k m e) N C B T = SxP X (m e) (fun e1 => N (k e1)) (fun e1 => C (k e1)) (fun e1 => B (k e1)) T := by
  simp only [RxP_eq, SxP_eq, RsP_eq, SoP_eq, OpP_eq]
  exact sx_kill_0
theorem sx_for {m : ε → Rs ε (List α)} {pt : α → ε → ε} {b : ε → So ε ρ} : SxP X (mFor m pt b e) N C B T = RxP X (m e) fun xs e1 => SxP X (mLoop (fun x e => b (pt x e)) xs e1) N C B T := by
  simp only [RxP_eq, SxP_eq, RsP_eq, SoP_eq, OpP_eq]
  exact sx_for_0
theorem sx_ret {m : ε → Rs ε ρ} : SxP X (mRet m e) N C B T = RxP X (m e) T := by
  simp only [RxP_eq, SxP_eq, RsP_eq, SoP_eq, OpP_eq]
  exact sx_ret_0
theorem sx_drop {m : ε → Rs ε α} : SxP X (mDrop m e : So ε ρ) N C B T = RxP X (m e) fun _ e1 => N e1 := by
  simp only [RxP_eq, SxP_eq, RsP_eq, SoP_eq, OpP_eq]
  exact sx_drop_0
theorem sx_set {l : Ln ε α} {m : ε → Rs ε α} : SxP X (mSet l m e : So ε ρ) N C B T = RxP X (m e) fun a e1 => N (l.put (some a) e1) := by
  simp only [RxP_eq, SxP_eq, RsP_eq, SoP_eq, OpP_eq]
  exact sx_set_0
theorem sx_asgN {m : ε → Rs ε α} {pt : α → ε → ε} : SxP X (mAsgN m pt e : So ε ρ) N C B T = RxP X (m e) fun a e1 => N (pt a e1) := by
  simp only [RxP_eq, SxP_eq, RsP_eq, SoP_eq, OpP_eq]
  exact sx_asgN_0
theorem sx_if {c : ε → Rs ε Bool} {m n : ε → So ε ρ} : SxP X (mIfS c m n e) N C B T = RxP X (c e) fun b e1 => if b = true then SxP X (m e1) N C B T else SxP X (n e1) N C B T := by
  simp only [RxP_eq, SxP_eq, RsP_eq, SoP_eq, OpP_eq]
  exact sx_if_0
theorem sx_next : SxP X (mNext e : So ε ρ) N C B T = N e := by
  simp only [RxP_eq, SxP_eq, RsP_eq, SoP_eq, OpP_eq]
  exact sx_next_0
theorem sx_mbk : SxP X (mBrk e : So ε ρ) N C B T = B e := by
  simp only [RxP_eq, SxP_eq, RsP_eq, SoP_eq, OpP_eq]
  exact sx_mbk_0
theorem sx_mct : SxP X (mCt e : So ε ρ) N C B T = C e := by
  simp only [RxP_eq, SxP_eq, RsP_eq, SoP_eq, OpP_eq]
  exact sx_mct_0
theorem rx_un {g : β → Option α} {m : ε → Rs ε β} : RxP X (mUn g m e) Q = RxP X (m e) fun b e1 => OpP (g b) fun a => Q a e1 := by
  simp only [RxP_eq, SxP_eq, RsP_eq, SoP_eq, OpP_eq]
  exact rx_un_0
theorem rx_op {g : β → γ → Option α} {m : ε → Rs ε β} {n : ε → Rs ε γ} : RxP X (mOp g m n e) Q = RxP X (m e) fun b e1 => RxP X (n e1) fun c e2 => OpP (g b c) fun a => Q a e2 := by
  simp only [RxP_eq, SxP_eq, RsP_eq, SoP_eq, OpP_eq]
  exact rx_op_0
theorem rx_var {l : Ln ε α} : RxP X (mVar l e) Q = OpP (l.get e) fun a => Q a e := by
  simp only [RxP_eq, SxP_eq, RsP_eq, SoP_eq, OpP_eq]
  exact rx_var_0
theorem rx_move {l : Ln ε α} : RxP X (mMove l e) Q = OpP (l.get e) fun a => Q a (l.put none e) := by
  simp only [RxP_eq, SxP_eq, RsP_eq, SoP_eq, OpP_eq]
  exact rx_move_0
theorem rx_c {a : α} : RxP X (mC a e) Q = Q a e := by
  simp only [RxP_eq, SxP_eq, RsP_eq, SoP_eq, OpP_eq]
  exact rx_c_0
theorem rx_opL {g : β → γ → Option α} {l : Ln ε β} {m : ε → Rs ε γ} : RxP X (mOpL g l m e) Q = OpP (l.get e) fun _ => RxP X (m e) fun c e1 => OpP (l.get e1) fun b => OpP (g b c) fun a => Q a e1 := by
  simp only [RxP_eq, SxP_eq, RsP_eq, SoP_eq, OpP_eq]
  exact rx_opL_0
theorem rx_pair {m : ε → Rs ε α} {n : ε → Rs ε β} {Q : α × β → ε → Prop} : RxP X (mPair m n e) Q = RxP X (m e) fun a e1 => RxP X (n e1) fun b e2 => Q (a, b) e2 := by
  simp only [RxP_eq, SxP_eq, RsP_eq, SoP_eq, OpP_eq]
  exact rx_pair_0
theorem rx_pairL {l : Ln ε α} {n : ε → Rs ε β} {Q : α × β → ε → Prop} : RxP X (mPairL l n e) Q = OpP (l.get e) fun _ => RxP X (n e) fun b e1 => OpP (l.get e1) fun a => Q (a, b) e1 := by
  simp only [RxP_eq, SxP_eq, RsP_eq, SoP_eq, OpP_eq]
  exact rx_pairL_0
theorem rx_cons {m : ε → Rs ε α} {n : ε → Rs ε (List α)} {Q : List α → ε → Prop} : RxP X (mCons m n e) Q = RxP X (m e) fun a e1 => RxP X (n e1) fun b e2 => Q (a :: b) e2 := by
  simp only [RxP_eq, SxP_eq, RsP_eq, SoP_eq, OpP_eq]
  exact rx_cons_0
theorem rx_call {f : β → Rs Unit α} {m : ε → Rs ε β} : RxP X (mCall f m e) Q = RxP X (m e) fun b e1 => RsP (f b) fun a _ => Q a e1 := by
  simp only [RxP_eq, SxP_eq, RsP_eq, SoP_eq, OpP_eq]
  exact rx_call_0
theorem rx_callI {l : Ln ε ι} {f : ι → β → Rs ι α} {m : ε → Rs ε β} : RxP X (mCallI l f m e) Q = OpP (l.get e) fun _ => RxP X (m e) fun b e1 => OpP (l.get e1) fun s => RsP (f s b) fun a s' => Q a (l.put (some s') (l.put none e1)) := by
  simp only [RxP_eq, SxP_eq, RsP_eq, SoP_eq, OpP_eq]
  exact rx_callI_0
theorem rx_bm {l : Ln ε ι} {g : ι → β → Option (α × ι)} {m : ε → Rs ε β} : RxP X (mBM l g m e) Q = OpP (l.get e) fun _ => RxP X (m e) fun b e1 => OpP (l.get e1) fun s => OpP (g s b) fun p => Q p.1 (l.put (some p.2) (l.put none e1)) := by
  simp only [RxP_eq, SxP_eq, RsP_eq, SoP_eq, OpP_eq]
  exact rx_bm_0
theorem rx_bm0 {l : Ln ε ι} {g : ι → Unit → Option (α × ι)} : RxP X (mBM0 l g e) Q = OpP (l.get e) fun _ => OpP (l.get e) fun s => OpP (g s ()) fun p => Q p.1 (l.put (some p.2) (l.put none e)) := by
  simp only [RxP_eq, SxP_eq, RsP_eq, SoP_eq, OpP_eq]
  exact rx_bm0_0
theorem sx_setI {l : Ln ε γ} {g : γ → α → β → Option γ} {mi : ε → Rs ε α} {m : ε → Rs ε β} : SxP X (mSetI l g mi m e : So ε ρ) N C B T = RxP X (m e) fun y e1 => OpP (l.get e1) fun _ => RxP X (mi e1) fun x e2 => OpP (l.get e2) fun s => OpP (g s x y) fun s' => N (l.put (some s') (l.put none e2)) := by
  simp only [RxP_eq, SxP_eq, RsP_eq, SoP_eq, OpP_eq]
  exact sx_setI_0
theorem rx_not {m : ε → Rs ε Bool} {Q : Bool → ε → Prop} : RxP X (mNot m e) Q = RxP X (m e) fun b e1 => Q (!b) e1 := by
  simp only [RxP_eq, SxP_eq, RsP_eq, SoP_eq, OpP_eq]
  exact rx_not_0
theorem rx_and {m n : ε → Rs ε Bool} {Q : Bool → ε → Prop} : RxP X (mAnd m n e) Q = RxP X (m e) fun b e1 => if b = true then RxP X (n e1) Q else Q false e1 := by
  simp only [RxP_eq, SxP_eq, RsP_eq, SoP_eq, OpP_eq]
  exact rx_and_0
theorem rx_or {m n : ε → Rs ε Bool} {Q : Bool → ε → Prop} : RxP X (mOr m n e) Q = RxP X (m e) fun b e1 => if b = true then Q true e1 else RxP X (n e1) Q := by
  simp only [RxP_eq, SxP_eq, RsP_eq, SoP_eq, OpP_eq]
  exact rx_or_0
theorem rx_if {c : ε → Rs ε Bool} {m n : ε → Rs ε α} : RxP X (mIf c m n e) Q = RxP X (c e) fun b e1 => if b = true then RxP X (m e1) Q else RxP X (n e1) Q := by
  simp only [RxP_eq, SxP_eq, RsP_eq, SoP_eq, OpP_eq]
  exact rx_if_0
theorem rx_chain {g : α → β → Option Bool} {g' : β → γ → Option Bool} {m : ε → Rs ε α} {n : ε → Rs ε β} {k : ε → Rs ε γ} {Q : Bool → ε → Prop} : RxP X (mChain g g' m n k e) Q = RxP X (m e) fun a e1 => RxP X (n e1) fun b e2 => OpP (g a b) fun c => if c = true then RxP X (k e2) fun d e3 => OpP (g' b d) fun z => Q z e3 else Q false e2 := by
  simp only [RxP_eq, SxP_eq, RsP_eq, SoP_eq, OpP_eq]
  exact rx_chain_0
theorem rx_mSome {m : ε → Rs ε α} {Q : Option α → ε → Prop} : RxP X (mSome m e) Q = RxP X (m e) fun a e1 => Q (some a) e1 := by
  simp only [RxP_eq, SxP_eq, RsP_eq, SoP_eq, OpP_eq]
  exact rx_mSome_0
theorem rx_mNone {m : ε → Rs ε Unit} {Q : Option α → ε → Prop} : RxP X (mNone m e) Q = RxP X (m e) fun a e1 => Q none e1 := by
  simp only [RxP_eq, SxP_eq, RsP_eq, SoP_eq, OpP_eq]
  exact rx_mNone_0
theorem rx_part {m : ε → Rs ε Int} {Q : Option Int → ε → Prop} : RxP X (mPart m e) Q = RxP X (m e) fun a e1 => Q (some a) e1 := by
  simp only [RxP_eq, SxP_eq, RsP_eq, SoP_eq, OpP_eq]
  exact rx_part_0
theorem rx_sl {g : β → Option Int → Option Int → Option α} {m : ε → Rs ε β} {lo hi : ε → Rs ε (Option Int)} : RxP X (mSl g m lo hi e) Q = RxP X (m e) fun b e1 => RxP X (lo e1) fun l e2 => RxP X (hi e2) fun u e3 => OpP (g b l u) fun a => Q a e3 := by
  simp only [RxP_eq, SxP_eq, RsP_eq, SoP_eq, OpP_eq]
  exact rx_sl_0
theorem rx_slL {g : β → Option Int → Option Int → Option α} {l : Ln ε β} {lo hi : ε → Rs ε (Option Int)} : RxP X (mSlL g l lo hi e) Q = OpP (l.get e) fun _ => RxP X (lo e) fun l1 e2 => RxP X (hi e2) fun u e3 => OpP (l.get e3) fun b => OpP (g b l1 u) fun a => Q a e3 := by
  simp only [RxP_eq, SxP_eq, RsP_eq, SoP_eq, OpP_eq]
  exact rx_slL_0
theorem rx_rng1 {m : ε → Rs ε Int} {Q : List Int → ε → Prop} : RxP X (mRng1 m e) Q = RxP X (m e) fun n e1 => bigI n = true ∧ Q (rng 0 n) e1 := by
  simp only [RxP_eq, SxP_eq, RsP_eq, SoP_eq, OpP_eq]
  exact rx_rng1_0
theorem rx_rng2 {m : ε → Rs ε (Int × Int)} {Q : List Int → ε → Prop} : RxP X (mRng2 m e) Q = RxP X (m e) fun n e1 => (bigI n.1 = true ∧ bigI n.2 = true) ∧ Q (rng n.1 n.2) e1 := by
  simp only [RxP_eq, SxP_eq, RsP_eq, SoP_eq, OpP_eq]
  exact rx_rng2_0
theorem rx_enum {m : ε → Rs ε (List α)} {Q : List (Int × α) → ε → Prop} : RxP X (mEnum m e) Q = RxP X (m e) fun xs e1 => Q (enumF xs) e1 := by
  simp only [RxP_eq, SxP_eq, RsP_eq, SoP_eq, OpP_eq]
  exact rx_enum_0
theorem rx_lock {l : Ln ε γ} {m : ε → Rs ε α} : RxP X (mLock l m e) Q = OpP (l.get e) fun x => RsP (m (l.put (some x) e)) fun a e1 => Q a (l.put (some x) (l.put none e1)) := by
  simp only [RxP_eq, SxP_eq, RsP_eq, SoP_eq, OpP_eq]
  exact rx_lock_0
theorem rx_dget2 [DecidableEq κ] {l : Ln ε (List (κ × β))} {m : ε → Rs ε κ} {x : ε → Rs ε β} {Q : β → ε → Prop} : RxP X (mDGet2 l m x e) Q = OpP (l.get e) fun _ => RxP X (m e) fun a e1 => RxP X (x e1) fun b e2 => OpP (l.get e2) fun kbs => Q ((dget kbs a).getD b) e2 := by
  simp only [RxP_eq, SxP_eq, RsP_eq, SoP_eq, OpP_eq]
  exact rx_dget2_0
theorem rx_keys {l : Ln ε (List (κ × β))} {Q : List κ → ε → Prop} : RxP X (mKeys l e) Q = OpP (l.get e) fun kbs => Q (keysOf kbs) e := by
  simp only [RxP_eq, SxP_eq, RsP_eq, SoP_eq, OpP_eq]
  exact rx_keys_0
theorem rx_lc {it : ε → Rs ε (List α)} {pt : α → ε → ε} {tt : ε → Rs ε Bool} {te : ε → Rs ε β} {kill : ε → ε} {rst : ε → ε → ε} {Q : List β → ε → Prop} : RxP X (mLc it pt tt te kill rst e) Q = RxP X (it e) fun xs e1 => xs.length ≤ 1000000 ∧ RxP X (lcR pt tt te kill xs (kill e1) []) fun ys e2 => Q ys (rst e1 e2) := by
  simp only [RxP_eq, SxP_eq, RsP_eq, SoP_eq, OpP_eq]
  exact rx_lc_0
theorem rx_yes {Q : Bool → ε → Prop} : RxP X (mYes e) Q = Q true e := by
  simp only [RxP_eq, SxP_eq, RsP_eq, SoP_eq, OpP_eq]
  exact rx_yes_0
theorem rx_runD {x : So ε ρ} {Q : ρ → Unit → Prop} : RxP X (x.run none) Q = SxP X x (fun _ => False) (fun _ => False) (fun _ => False) fun a _ => Q a () := by
  simp only [RxP_eq, SxP_eq, RsP_eq, SoP_eq, OpP_eq]
  exact rx_runD_0
theorem rx_runDS {x : So ε ρ} {d : ρ} {Q : ρ → Unit → Prop} : RxP X (x.run (some d)) Q = SxP X x (fun _ => Q d ()) (fun _ => False) (fun _ => False) fun a _ => Q a () := by
  simp only [RxP_eq, SxP_eq, RsP_eq, SoP_eq, OpP_eq]
  exact rx_runDS_0
theorem loopX {b : α → ε → So ε ρ} {xs : List α} {e : ε} (P : Nat → ε → Prop) (h0 : P 0 e) (hs : ∀ i x e, xs[i]? = some x → P i e → SxP X (b x e) (P (i + 1)) (P (i + 1)) N T) (hd : ∀ e, P xs.length e → N e) : SxP X (mLoop b xs e) N C B T := by
  simp only [RxP_eq, SxP_eq, RsP_eq, SoP_eq, OpP_eq] at *
  exact loopX_0 P h0 hs hd
theorem sx_raise {c : Str} : SxP X (mRaise c e : So ε ρ) N C B T = X ⟨c, none⟩ := propext ⟨fun h => by cases h with | ex h => exact h, fun h => .ex h⟩
theorem sx_asg {m : ε → Rs ε α} {pt : α → ε → Rs ε Unit} : SxP X (mAsg m pt e : So ε ρ) N C B T = RxP X (m e) fun a e1 => RxP X (pt a e1) fun _ e2 => N e2 := by
  unfold mAsg
  rw [sx_so]
  congr
  funext a e1
  rw [sx_so]
  simp only [sx_nx]
theorem rx_unw {m : ε → Rs ε (Option α)} {Q : α → ε → Prop} : RxP X (mUnw m e) Q = RxP X (m e) fun o e1 => OpP o fun a => Q a e1 := by unfold mUnw; rw [rx_bind]; simp only [rx_of]
theorem rx_callE {f : α → Rs Unit ρ} {m : ε → Rs ε α} {Q : ρ → ε → Prop} : RxP X (mCallE f m e) Q = RxP X (m e) fun a e1 => RxP X (f a) fun b _ => Q b e1 := by
  unfold mCallE
  rw [rx_bind]
  congr
  funext a e1
  rw [RxP_eq, RxP_eq]
  cases f a <;> rfl
theorem rx_out {x : Rs ε α} {Q : α → Unit → Prop} : RxP X x.out Q = RxP X x fun a _ => Q a () := by
  rw [RxP_eq, RxP_eq]
  cases x <;> rfl
theorem rp_out {x : Rs ε α} {Q : α → Unit → Prop} : RsP x.out Q = RsP x fun a _ => Q a () := by
  rw [RsP_eq, RsP_eq]
  cases x <;> rfl
/-- try: y = asked() -/
theorem sp_tryA {ns : List Str} {la : Ln ε (Rs Unit α)} {l : Ln ε (Option Xc)} {le : Ln ε γ} {lf : Ln ε β} {g : α → β} {x : Rs Unit α} {Q : α → Unit → Prop} (ha : la.get e = some x) (h : RxP X x Q) (k : ∀ a u, Q a u → N (lf.put (some (g a)) e)) (k' : ∀ c, X c → c.name ∈ ns ∧ N (le.put none (l.put (some (some c)) (le.put none e)))) :
    SoP (mTryA ns la l le lf g e : So ε ρ) N C B T := by
  unfold mTryA
  rw [ha]
  cases h with
  | mk h => exact .nx (k _ _ h)
  | ex h =>
    dsimp only
    rw [if_pos (k' _ h).1]
    exact .nx (k' _ h).2
end
def Okd (n : Nat) (d : PyData) : Prop := small 80 d = true ∧ cost 80 d ≤ n
theorem Okd.rp {n : Nat} {d : PyData} (h : Okd n d) (hn : n ≤ 16777216) : rpOk d = true := by
  unfold rpOk
  rw [Bool.and_eq_true_iff, decide_eq_true_iff]
  exact ⟨h.1, Nat.le_trans h.2 hn⟩
theorem Okd.mono {n m : Nat} {d : PyData} (h : Okd n d) (hn : n ≤ m) : Okd m d := ⟨h.1, Nat.le_trans h.2 hn⟩
/-- a number of at most thirty figures -/
def Bd30 (x : Int) : Prop := -1000000000000000000000000000000 < x ∧ x < 1000000000000000000000000000000
theorem abs80 {x : Int} (h : Bd30 x) : x.natAbs < 10 ^ 80 := by
  unfold Bd30 at h
  have : x.natAbs < 1000000000000000000000000000000 := by omega
  exact Nat.lt_trans this (by decide)
theorem okd_int {x : Int} (h : x.natAbs < 10 ^ 80) : Okd 81 (.int x) := ⟨by unfold small; exact decide_eq_true h, by unfold cost; exact Nat.le_refl _⟩
theorem okd_tup {m k : Nat} {xs : List PyData} (h : ∀ x ∈ xs, Okd m x) (hl : xs.length ≤ k) : Okd ((m + 2) * k + 4) (.tuple xs) := by
  constructor
  · unfold small
    rw [smallAll_iff]
    exact fun x hx => (h x hx).1
  · unfold cost
    have h1 := costAll_le (k := 80) (m := m) fun x hx => (h x hx).2
    have h2 : (m + 2) * xs.length ≤ (m + 2) * k := Nat.mul_le_mul_left _ hl
    omega
theorem okd_lst {m k : Nat} {xs : List PyData} (h : ∀ x ∈ xs, Okd m x) (hl : xs.length ≤ k) : Okd ((m + 2) * k + 4) (.list xs) := by
  constructor
  · unfold small
    rw [smallAll_iff]
    exact fun x hx => (h x hx).1
  · unfold cost
    have h1 := costAll_le (k := 80) (m := m) fun x hx => (h x hx).2
    have h2 : (m + 2) * xs.length ≤ (m + 2) * k := Nat.mul_le_mul_left _ hl
    omega
theorem okd_face {f : List Int} {k : Nat} (hl : f.length ≤ k) (h : ∀ x ∈ f, x.natAbs < 10 ^ 80) : Okd (83 * k + 4) ((enT enI).enc f) := okd_tup (m := 81) (fun x hx => by
  obtain ⟨y, hy, rfl⟩ := List.mem_map.mp hx
  exact okd_int (h y hy)) (by rw [List.length_map]; exact hl)
theorem okd_shape {sh : List (List Int)} {k n : Nat} (hl : sh.length ≤ n) (h : ∀ p ∈ sh, p.length ≤ k ∧ ∀ x ∈ p, x.natAbs < 10 ^ 80) : Okd ((83 * k + 6) * n + 4) ((enT (enT enI)).enc sh) := okd_tup (m := 83 * k + 4) (fun x hx => by
  obtain ⟨y, hy, rfl⟩ := List.mem_map.mp hx
  exact okd_face (h y hy).1 (h y hy).2) (by rw [List.length_map]; exact hl)
section
variable {ε α β : Type}
theorem op_reprE {E : Er α} {a : α} {Q : Str → Prop} (h : rpOk (E.enc a) = true) (q : Q (E.enc a).shown) : OpP (gReprE E a) Q := by
  unfold gReprE
  rw [if_pos h]
  exact .mk q
theorem rs_dec {x : Rs ε Str} {n : Str} (h : (match x with | .ok s _ => decide (s = n) | _ => false) = true) : RsP x fun r _ => r = n := by
  cases x with
  | ok a e => exact .mk (of_decide_eq_true h)
  | ex c e => cases h
  | bad => cases h
end
open PySem.AutoSeq1
section
variable {X : Cx}
variable {K : PySem.W.Frag} {w : World}
def gSsetG (ns : List Int) : Option (List Int) := if ns.length ≤ 100000 then some (sset ns) else none
end
mutual
def Th.enc : Th → PyData
  | .int i => .int i
  | .bl b => .bool b
  | .non => .none
  | .str s => .str s
  | .lst xs => .list (encAll xs)
  | .tup xs => .tuple (encAll xs)
  | .dic kvs => .dict (encKv kvs)
  | .dct kvs => .dict (encKt kvs)
def encAll : List Th → List PyData
  | [] => []
  | x :: xs => x.enc :: encAll xs
def encKv : List (Int × Th) → List (PyData × PyData)
  | [] => []
  | (k, x) :: xs => (.int k, x.enc) :: encKv xs
def encKt : List (List Int × Th) → List (PyData × PyData)
  | [] => []
  | (k, x) :: xs => (.tuple (k.map PyData.int), x.enc) :: encKt xs
end
section
variable {X : Cx} {pins : List (Addr × Obj)} {σ : L2.St} {H : Hp} {s : Shared}
/-- a list that is tracked doesn't stand where sys.modules stands -/
def SMod (base : Heap) : Prop := ∃ m, base.Ns sysModules m
theorem SMod.no (sm : SMod X.base) (I : Inv X pins σ H s) : H sysModules = none := by
  obtain ⟨m, o, es, ep, e, _⟩ := sm
  exact (I.bs _ _ e).2
theorem ints_readsAll {h : Heap} : ∀ {ns : List Int} {us : List Value}, Vals (ns.map V.int) us → ReadsAll h us (ns.map PyData.int) []
  | [], _, r => by cases r; exact .nil
  | n :: ns, _, r => by
    cases r with
    | cons r1 r2 =>
      obtain ⟨t, rfl⟩ := r1
      exact ReadsAll.cons (as := []) (bs := []) (Reads.int n t) (ints_readsAll r2)
mutual
theorem th_reads (I : Inv X pins σ H s) (sm : H sysModules = none) : ∀ (t : Th) (v : V) (u : Value), thR H v t → RelV v u → ∃ as, Reads s.heap u t.enc as ∧ sysModules ∉ as
  | .int i, v, u, h, r => by
    unfold thR at h
    subst h
    obtain ⟨t, rfl⟩ := r
    unfold Th.enc
    exact ⟨[], .int i t, by simp⟩
  | .bl b, v, u, h, r => by
    unfold thR at h
    subst h
    cases r
    unfold Th.enc
    exact ⟨[], .bool b, by simp⟩
  | .non, v, u, h, r => by
    unfold thR at h
    subst h
    cases r
    unfold Th.enc
    exact ⟨[], .none, by simp⟩
  | .str x, v, u, h, r => by
    unfold thR at h
    subst h
    obtain ⟨t, rfl⟩ := r
    unfold Th.enc
    exact ⟨[], .str x t, by simp⟩
  | .lst xs, v, u, h, r => by
    unfold thR at h
    obtain ⟨L, vs, rfl, h2, h3⟩ := h
    cases r
    obtain ⟨z, its, n, rv, hl, e⟩ := I.lstM h2
    obtain ⟨as, q1, q2⟩ := th_readsAll I sm xs vs its h3 rv
    unfold Th.enc
    refine ⟨L :: as, Reads.list e rfl rfl q1, ?_⟩
    rw [List.mem_cons]
    rintro (e | e)
    · rw [← e, sm] at h2
      cases h2
    · exact q2 e
  | .tup xs, v, u, h, r => by
    unfold thR at h
    obtain ⟨L, vs, rfl, h2, h3⟩ := h
    cases r
    obtain ⟨z, its, rv, ⟨o, ho, hc, n, hd⟩⟩ := I.hok L _ h2
    obtain ⟨as, q1, q2⟩ := th_readsAll I sm xs vs its h3 rv
    unfold Th.enc
    exact ⟨as, Reads.tuple ho hc hd q1, q2⟩
  | .dic kvs, v, u, h, r => by
    unfold thR at h
    obtain ⟨L, ws, rfl, h2, h3⟩ := h
    cases r
    obtain ⟨z, zs, vs, rv, ⟨o, es, ep, ho, hx, hd, hk, hp, nd⟩⟩ := I.hok L _ h2
    obtain ⟨as, bs, q1, q2, q3⟩ := th_readsKv I sm kvs ws vs es.toList h3 rv hp
    unfold Th.enc
    refine ⟨L :: as ++ bs, Reads.dict ho hx.1 hd q1 q2, ?_⟩
    rw [List.cons_append, List.mem_cons]
    rintro (e | e)
    · rw [← e, sm] at h2
      cases h2
    · exact q3 e
  | .dct kvs, v, u, h, r => by
    unfold thR at h
    obtain ⟨L, ws, rfl, h2, h3⟩ := h
    cases r
    obtain ⟨z, zs, xs, rv, ⟨o, es, ep, ho, hx, hd, hk, nd⟩⟩ := I.hok L _ h2
    obtain ⟨as, bs, q1, q2, q3⟩ := th_readsKt I sm kvs ws xs h3 rv
    rw [← hk] at q1 q2
    unfold Th.enc
    refine ⟨L :: as ++ bs, Reads.dict ho hx.1 hd q1 q2, ?_⟩
    rw [List.cons_append, List.mem_cons]
    rintro (e | e)
    · rw [← e, sm] at h2
      cases h2
    · exact q3 e
theorem th_readsAll (I : Inv X pins σ H s) (sm : H sysModules = none) : ∀ (ts : List Th) (vs : List V) (us : List Value), thRs H vs ts → Vals vs us → ∃ as, ReadsAll s.heap us (encAll ts) as ∧ sysModules ∉ as
  | [], vs, us, h, r => by
    unfold thRs at h
    subst h
    cases r
    unfold encAll
    exact ⟨[], .nil, by simp⟩
  | t :: ts, vs, us, h, r => by
    unfold thRs at h
    obtain ⟨v, ws, rfl, h1, h2⟩ := h
    cases r with
    | cons r1 r2 =>
      obtain ⟨as, q1, q2⟩ := th_reads I sm t v _ h1 r1
      obtain ⟨bs, p1, p2⟩ := th_readsAll I sm ts ws _ h2 r2
      unfold encAll
      exact ⟨as ++ bs, .cons q1 p1, by rw [List.mem_append]; exact fun z => z.elim q2 p2⟩
theorem th_readsKv (I : Inv X pins σ H s) (sm : H sysModules = none) : ∀ (kvs : List (Int × Th)) (ws : List (Key × V)) (vs : List (Key × Value)) (es : List DictEntry), thRd H ws kvs → KV ws vs → Pairs (mixKind X.prog X.w) es vs →
    ∃ as bs, ReadsAll s.heap (es.map (·.key)) ((encKv kvs).map (·.1)) as ∧ ReadsAll s.heap (es.map (·.val)) ((encKv kvs).map (·.2)) bs ∧ sysModules ∉ as ++ bs
  | [], ws, vs, es, h, r, p => by
    unfold thRd at h
    subst h
    cases r
    cases p
    unfold encKv
    exact ⟨[], [], .nil, .nil, by simp⟩
  | (k, t) :: kvs, ws, vs, es, h, r, p => by
    unfold thRd at h
    obtain ⟨v, ws', rfl, h1, h2⟩ := h
    cases r with
    | cons r1 r2 =>
      cases p with
      | cons p1 p1' p2 =>
        obtain ⟨as, bs, q1, q2, q3⟩ := th_readsKv I sm kvs ws' _ _ h2 r2 p2
        obtain ⟨cs, d1, d2⟩ := th_reads I sm t v _ h1 r1.2
        rename_i kv _ e0 _
        have hk : keyIs kv.1 e0.key = true := p1
        rw [← r1.1] at hk
        rcases keyIs_shape hk with ⟨i, tk, e1, e2⟩ | ⟨x, tk, e1, e2⟩
        · cases e1
          unfold encKv
          refine ⟨[] ++ as, cs ++ bs, .cons (show Reads s.heap e0.key (.int k) [] by rw [e2]; exact Reads.int k tk) q1, .cons (show Reads s.heap e0.val t.enc cs by rw [p1']; exact d1) q2, ?_⟩
          simp only [List.nil_append, List.mem_append] at q3 ⊢
          rintro (z | z | z)
          · exact q3 (.inl z)
          · exact d2 z
          · exact q3 (.inr z)
        · cases e1
theorem th_readsKt (I : Inv X pins σ H s) (sm : H sysModules = none) : ∀ (kvs : List (List Int × Th)) (ws : List (List Key × V)) (xs : List (List Key × Addr × Value)), thRt H ws kvs → Paired (fun (p : List Key × V) (q : List Key × Addr × Value) => p.1 = q.1 ∧ H q.2.1 = some (.tup (p.1.map kV)) ∧ RelV p.2 q.2.2) ws xs →
    ∃ as bs, ReadsAll s.heap ((xs.map (entryOfKey (tupleKind (mixKind X.prog X.w)))).map (·.key)) ((encKt kvs).map (·.1)) as ∧ ReadsAll s.heap ((xs.map (entryOfKey (tupleKind (mixKind X.prog X.w)))).map (·.val)) ((encKt kvs).map (·.2)) bs ∧ sysModules ∉ as ++ bs
  | [], ws, xs, h, r => by
    unfold thRt at h
    subst h
    cases r
    unfold encKt
    exact ⟨[], [], .nil, .nil, by simp⟩
  | (k, t) :: kvs, ws, xs, h, r => by
    unfold thRt at h
    obtain ⟨v, ws', rfl, h1, h2⟩ := h
    cases r with
    | cons r1 r2 =>
      obtain ⟨as, bs, q1, q2, q3⟩ := th_readsKt I sm kvs ws' _ h2 r2
      obtain ⟨cs, d1, d2⟩ := th_reads I sm t v _ h1 r1.2.2
      have hk := r1.2.1
      rw [show (k.map (Sum.inl : Int → Key)).map kV = k.map V.int by rw [List.map_map]; rfl] at hk
      obtain ⟨z, its, rv, ⟨o, ho, hc, n, hd⟩⟩ := I.hok _ _ hk
      unfold encKt
      refine ⟨[] ++ as, cs ++ bs, .cons (Reads.tuple ho hc hd (ints_readsAll rv)) q1, .cons d1 q2, ?_⟩
      simp only [List.nil_append, List.mem_append] at q3 ⊢
      rintro (z | z | z)
      · exact q3 (.inl z)
      · exact d2 z
      · exact q3 (.inr z)
end
end
def rReprT : List V → Hp → VK → Prop := fun xs H Q => ∃ (v : V) (t : Th), xs = [v] ∧ thR H v t ∧ t.enc.showable = true ∧ t.enc.depth ≤ 60 ∧ t.enc.shown.length ≤ 16777216 ∧ Q (.str t.enc.shown) H
theorem call_reprT {X : Cx} (hg : X.A.guards = some []) (hu : X.A.units + 64 < cLine) (sm : SMod X.base) : CallR X (.builtin "repr") rReprT := by
  intro pins s σ H vs us Q I r h
  obtain ⟨v, t, rfl, hd, hs, hz, hc, q⟩ := h
  have hm := sm.no I
  have ref : ∀ L u, v = .ref L → RelV v u → wpAny (model X.prog X.w) X.A (call (.builtin "repr") [u]) (fun u' s' => ∃ w H', Inv X pins σ H' s' ∧ RelV w u' ∧ Q w H') X.xe s := by
    rintro L u rfl r1
    obtain ⟨as, rd, na⟩ := th_reads I hm t _ _ hd r1
    cases r1
    exact repr_of_reads' rd hs (fun _ => na) hg (by omega) (fun _ _ e => e) (fun h' u tk kp => ⟨.str t.enc.shown, H, I.kept kp, ⟨u, rfl⟩, q⟩) (by rw [sizeLine_eq]; exact hc)
  cases r with
  | cons r1 r2 =>
    cases r2
    cases t with
    | int i =>
      unfold thR at hd
      subst hd
      obtain ⟨t, rfl⟩ := r1
      have h' : i.natAbs.log2 < 1920 := by simpa [Th.enc, PyData.showable] using hs
      exact PySem.P.repr_of_int h' ⟨.str (PyData.shown (.int i)), H, I.tok _, ⟨_, rfl⟩, by unfold Th.enc at q; exact q⟩
    | bl b =>
      unfold thR at hd
      subst hd
      cases r1
      cases b with
      | true => exact PySem.P.repr_of_bool ⟨.str (PyData.shown (.bool true)), H, I.tok _, ⟨_, rfl⟩, by unfold Th.enc at q; exact q⟩
      | false => exact PySem.P.repr_of_bool ⟨.str (PyData.shown (.bool false)), H, I.tok _, ⟨_, rfl⟩, by unfold Th.enc at q; exact q⟩
    | non =>
      unfold thR at hd
      subst hd
      cases r1
      exact PySem.P.repr_of_none ⟨.str "None", H, I.tok _, ⟨_, rfl⟩, by unfold Th.enc at q; exact q⟩
    | str x =>
      unfold thR at hd
      subst hd
      obtain ⟨t, rfl⟩ := r1
      refine PySem.P.repr_of_str ⟨.str (PyData.shown (.str x)), H, I.tok _, ⟨_, rfl⟩, by unfold Th.enc at q; exact q⟩ ?_
      rw [sizeLine_eq]
      unfold Th.enc at hc
      exact hc
    | lst xs =>
      have hd' := hd
      unfold thR at hd'
      obtain ⟨L, _, e, _⟩ := hd'
      exact ref L _ e r1
    | tup xs =>
      have hd' := hd
      unfold thR at hd'
      obtain ⟨L, _, e, _⟩ := hd'
      exact ref L _ e r1
    | dic xs =>
      have hd' := hd
      unfold thR at hd'
      obtain ⟨L, _, e, _⟩ := hd'
      exact ref L _ e r1
    | dct xs =>
      have hd' := hd
      unfold thR at hd'
      obtain ⟨L, _, e, _⟩ := hd'
      exact ref L _ e r1
section
variable {K : PySem.W.Frag}
def gReprT (t : Th) : Option Str := if t.enc.showable = true ∧ t.enc.depth ≤ 60 ∧ t.enc.shown.length ≤ 16777216 then some t.enc.shown else none
theorem v_reprT : VR K rReprT (aOne (ir rTh)) rS gReprT := fun G H v a b Q s ⟨x, h0, h1⟩ hg k => by
  subst h0
  obtain ⟨⟨h2, h3, h4⟩, rfl⟩ := of_ite hg
  exact ⟨x, a, rfl, thR.mono s h1, h2, h3, h4, k _ G H (.refl s) rfl⟩
end
structure OkT (n d : Nat) (t : Th) : Prop where
  sh : t.enc.showable = true
  ln : t.enc.shown.length ≤ n
  dp : t.enc.depth ≤ d
theorem OkT.mono {n d n' d' : Nat} {t : Th} (h : OkT n d t) (h1 : n ≤ n') (h2 : d ≤ d') : OkT n' d' t := ⟨h.sh, Nat.le_trans h.ln h1, Nat.le_trans h.dp h2⟩
theorem op_reprT {n d : Nat} {t : Th} {Q : Str → Prop} (h : OkT n d t) (hn : n ≤ 16777216) (hd : d ≤ 60) (q : Q t.enc.shown) : OpP (gReprT t) Q := by
  unfold gReprT
  rw [if_pos ⟨h.sh, Nat.le_trans h.dp hd, Nat.le_trans h.ln hn⟩]
  exact .mk q
theorem okT_int {i : Int} (h : i.natAbs < 10 ^ 80) : OkT 81 0 (.int i) := by
  refine ⟨?_, ?_, ?_⟩ <;> unfold Th.enc
  · simp [PyData.showable, log_small (by decide) h]
  · exact int_le (by decide) h
  · simp [PyData.depth]
theorem okT_bl {b : Bool} : OkT 5 0 (.bl b) := by
  refine ⟨?_, ?_, ?_⟩ <;> unfold Th.enc
  · simp [PyData.showable]
  · cases b <;> decide +kernel
  · simp [PyData.depth]
theorem okT_non : OkT 4 0 .non := by
  refine ⟨?_, ?_, ?_⟩ <;> unfold Th.enc
  · simp [PyData.showable]
  · decide +kernel
  · simp [PyData.depth]
theorem okT_str {s : Str} {n : Nat} (h : (reprText s).length ≤ n) : OkT n 0 (.str s) := by
  refine ⟨?_, ?_, ?_⟩ <;> unfold Th.enc
  · simp [PyData.showable]
  · exact h
  · simp [PyData.depth]
theorem okT_all {m d : Nat} : ∀ {xs : List Th}, (∀ x ∈ xs, OkT m d x) → PyData.showableAll (encAll xs) = true ∧ piled (PyData.shownAll (encAll xs)) ≤ (m + 2) * xs.length ∧ PyData.depthAll (encAll xs) ≤ d
  | [], _ => by simp [encAll, PyData.showableAll, PyData.shownAll, PyData.depthAll, piled]
  | x :: xs, h => by
    obtain ⟨h1, h2, h3⟩ := okT_all (xs := xs) fun y hy => h y (List.mem_cons_of_mem _ hy)
    have hx := h x List.mem_cons_self
    have hl := hx.ln
    have hd := hx.dp
    unfold encAll
    refine ⟨?_, ?_, ?_⟩
    · simp [PyData.showableAll, h1, hx.sh]
    · show piled (PyData.shown x.enc :: PyData.shownAll (encAll xs)) ≤ _
      rw [piled_cons, List.length_cons, Nat.mul_add]
      omega
    · simp only [PyData.depthAll]
      omega
theorem okT_lst {m d k : Nat} {xs : List Th} (h : ∀ x ∈ xs, OkT m d x) (hl : xs.length ≤ k) : OkT ((m + 2) * k + 4) (d + 1) (.lst xs) := by
  obtain ⟨h1, h2, h3⟩ := okT_all h
  have h4 : (m + 2) * xs.length ≤ (m + 2) * k := Nat.mul_le_mul_left _ hl
  refine ⟨?_, ?_, ?_⟩ <;> unfold Th.enc
  · simpa [PyData.showable] using h1
  · have := listText_le (PyData.shownAll (encAll xs))
    show (listText (PyData.shownAll (encAll xs))).length ≤ _
    omega
  · simp only [PyData.depth]
    omega
theorem okT_tup {m d k : Nat} {xs : List Th} (h : ∀ x ∈ xs, OkT m d x) (hl : xs.length ≤ k) : OkT ((m + 2) * k + 4) (d + 1) (.tup xs) := by
  obtain ⟨h1, h2, h3⟩ := okT_all h
  have h4 : (m + 2) * xs.length ≤ (m + 2) * k := Nat.mul_le_mul_left _ hl
  refine ⟨?_, ?_, ?_⟩ <;> unfold Th.enc
  · simpa [PyData.showable] using h1
  · have := tupleText_le (PyData.shownAll (encAll xs))
    show (tupleText (PyData.shownAll (encAll xs))).length ≤ _
    omega
  · simp only [PyData.depth]
    omega
section
variable {ε α β : Type} {M : Mx} {R : ERep ε}
def toTh (f : α → Th) (a : α) : Option Th := some (f a)
abbrev CiT (r : Rep α) (f : α → Th) : Prop := CastR r rTh (toTh f)
theorem ci_I : CiT rI Th.int := c_int
theorem ci_B : CiT rB Th.bl := c_bl
theorem ci_S : CiT rS Th.str := c_str
theorem ci_N : CiT rN (fun _ => Th.non) := c_non
theorem ci_id : CiT rTh (fun t => t) := fun K G v a b h e => by cases e; exact h
theorem ci_L {r : Rep α} {f : α → Th} (c : CiT r f) : CiT (rz (oL r)) (fun xs => Th.lst (xs.map f)) := fun K G v a b h e => by
  cases e
  exact c_lst K G v _ _ (c_L (f := f) (fun K G v a b h e => c K G v a b h e) K G v a _ h rfl) rfl
theorem ci_T {r : Rep α} {f : α → Th} (c : CiT r f) : CiT (rz (oT r)) (fun xs => Th.tup (xs.map f)) := fun K G v a b h e => by
  cases e
  exact c_tup K G v _ _ (c_T (f := f) (fun K G v a b h e => c K G v a b h e) K G v a _ h rfl) rfl
theorem dr_map {κ κ' : Type} {kr : KeyR κ κ'} {r : Rep α} {r' : Rep β} {f : α → β} (c : ∀ K G v a, r.rel K G v a → r'.rel K G v (f a)) {K : PySem.W.Frag} {G : Hp} : ∀ {ws : List (κ' × V)} {kbs : List (κ × α)}, DR kr r K G ws kbs → DR kr r' K G ws (kbs.map fun p => (p.1, f p.2))
  | _, [], h => by unfold DR at h ⊢; cases h; exact .nil
  | _, p :: kbs, h => by
    unfold DR at h
    cases h with
    | cons h1 h2 => exact .cons ⟨h1.1, c _ _ _ _ h1.2⟩ (dr_map c h2)
theorem ci_D {r : Rep α} {f : α → Th} (c : CiT r f) : CiT (rz (oD r)) (fun kbs => Th.dct (kbs.map fun p => (p.1, f p.2))) := fun K G v a b h e => by
  cases e
  obtain ⟨L, ho, h1, h2, ws, rfl, h3⟩ := h
  exact c_dct K G v _ _ ⟨L, _, h1, h2, ws, rfl, dr_map (fun K G v a h => c K G v a _ h rfl) h3⟩ rfl
def gDisp1 (k : Int) (b : β) : Option (List (Int × β)) := some [(k, b)]
end
def isInt : Th → Bool | .int _ => true | .bl _ => true | _ => false
def isBl : Th → Bool | .bl _ => true | _ => false
def isLst : Th → Bool | .lst _ => true | _ => false
def isTup : Th → Bool | .tup _ => true | _ => false
def isStr : Th → Bool | .str _ => true | _ => false
def isDic : Th → Bool | .dic _ => true | .dct _ => true | _ => false
theorem ist_int (t : Th) : isT "int" t = isInt t := by
  cases t <;> (simp only [isT, kindOf, isInt]; decide +kernel)
theorem ist_bool (t : Th) : isT "bool" t = isBl t := by
  cases t <;> (simp only [isT, kindOf, isBl]; decide +kernel)
theorem ist_list (t : Th) : isT "list" t = isLst t := by
  cases t <;> (simp only [isT, kindOf, isLst]; decide +kernel)
theorem ist_tuple (t : Th) : isT "tuple" t = isTup t := by
  cases t <;> (simp only [isT, kindOf, isTup]; decide +kernel)
theorem ist_str (t : Th) : isT "str" t = isStr t := by
  cases t <;> (simp only [isT, kindOf, isStr]; decide +kernel)
theorem ist_dict (t : Th) : isT "dict" t = isDic t := by
  cases t <;> (simp only [isT, kindOf, isDic]; decide +kernel)
theorem gIsTh_int {t : Th} : gIsTh "int" (t, ()) = some (isInt t) := by unfold gIsTh; rw [ist_int]
theorem gIsTh_bool {t : Th} : gIsTh "bool" (t, ()) = some (isBl t) := by unfold gIsTh; rw [ist_bool]
theorem gIsTh_list {t : Th} : gIsTh "list" (t, ()) = some (isLst t) := by unfold gIsTh; rw [ist_list]
theorem gIsTh_tuple {t : Th} : gIsTh "tuple" (t, ()) = some (isTup t) := by unfold gIsTh; rw [ist_tuple]
theorem gIsTh_str {t : Th} : gIsTh "str" (t, ()) = some (isStr t) := by unfold gIsTh; rw [ist_str]
theorem gIsTh_dict {t : Th} : gIsTh "dict" (t, ()) = some (isDic t) := by unfold gIsTh; rw [ist_dict]
section
variable {K : PySem.W.Frag} {α β ε : Type} {M : Mx} {R : ERep ε}
def gRepT (xs : List α) (k : Int) : Option (List α) := if xs ≠ [] ∧ 2 ≤ k ∧ k ≤ 1000 ∧ xs.length ≤ 1000 then some (List.replicate k.toNat xs).flatten else none
def gDictP (rows : List (Int × β)) : Option (List (Int × β)) := some (dputs [] rows)
def pairTh (f : α → Th) (g : β → Th) (p : α × β) : Option (List Th) := some [f p.1, g p.2]
end
section
variable {X : Cx} {K : PySem.W.Frag}
def isTB (b : Bool) (t : Th) : Bool := match t with | .bl c => decide (c = b) | _ => false
def gIsTB (t : Th) (b : Bool) : Option Bool := some (isTB b t)
def gNotTB (t : Th) (b : Bool) : Option Bool := some (!isTB b t)
end
section
variable {K : PySem.W.Frag} {α β γ ε ρ : Type} {w : World} {P : Program} {M : Mx} {R : ERep ε}
def gLenSI (ns : List Int) : Option Int := some (sset ns).length
def gLenST (ns : List (List Int)) : Option Int := some (ssetF ns).length
end
section
variable {X : Cx} {K : PySem.W.Frag}
def rMulW : R2 := L2.rI CMulW fun i j => .int (i * j)
theorem o_mulW : OpR X (binaryOp .Mult) rMulW := op_mulW
def gMulW (i j : Int) : Option Int := if i.natAbs.log2 + j.natAbs.log2 < 1000000 then some (i * j) else none
theorem v_mulW : VR2 K rMulW (ir rI) (ir rI) rI gMulW := v_IC (C := CMulW) fun i j h => h
end
section
variable {ε α β : Type} {M : Mx} {R : ERep ε}
def gDispT (k : List Int) (b : β) : Option (List (List Int × β)) := some [(k, b)]
end
section
variable {ε α β : Type} {M : Mx} {R : ERep ε} {K : PySem.W.Frag}
def gPc (p : List Int × Int × Int) (_ : Unit) : Option (List Int) := some p.1
def gPa (p : List Int × Int × Int) (_ : Unit) : Option Int := some p.2.1
def gPl (p : List Int × Int × Int) (_ : Unit) : Option Int := some p.2.2
def gSetPa (p : List Int × Int × Int) (_ : Unit) (x : Int) : Option (List Int × Int × Int) := some (p.1, x, p.2.2)
def gSetPl (p : List Int × Int × Int) (_ : Unit) (x : Int) : Option (List Int × Int × Int) := some (p.1, p.2.1, x)
end
def repS (a : Str) (n : Nat) : Str := ⟨(List.replicate n a.cps).foldl (· ++ ·) #[]⟩
def gAddS (a b : Str) : Option Str := if a.length + b.length ≤ 1000000 then some (a ++ b) else none
def gMulS (a : Str) (n : Int) : Option Str := if (1 ≤ n ∧ n ≤ 1000) ∧ 1 ≤ a.length ∧ a.length ≤ 1000 then some (repS a n.toNat) else none
section
variable {ν ν' α β γ ε ρ ι : Type} {M : Mx} {R : ERep ε} {F : Frm} {G G1 H : Hp} {σ : Sg} {D : Ends}
def PostIT (K : PySem.W.Frag) (F : Frm) (p P : Addr) (z : Str) (q : ORep ι) (rr : RS V ρ) (Q : VK) : Rs ι ρ → Prop
  | .ok b st => ∀ v G' H' H1 ho, IV F G' H' → rr.rel K F G' H' v b H1 → TabG P z G' H1 → H1 p = some ho → G' p = none → q.rel K G' ho st → Q v H'
  | .ex _ _ => False
  | .bad => False
def spIT (K : PySem.W.Frag) (P : Addr) (z : Str) (q : ORep ι) (ra : IR (List V) α) (rr : RS V ρ) (f : ι → α → Rs ι ρ) : Sp := fun vs H Q E => ∃ G p ws ho st a, vs = .ref p :: ws ∧ hide H P p = some ho ∧ G p = none ∧ q.rel K G ho st ∧ (Sub G H ∧ Tps G H) ∧ TabG P z G H ∧ ra K G (hide (hide H P) p) ws a ∧ PostIT K ⟨G, H, [p, P], fun _ => none, fun _ => none⟩ p P z q rr Q (f st a)
theorem len_IT {K : PySem.W.Frag} {P : Addr} {z : Str} {q : ORep ι} {ra : IR (List V) α} {rr : RS V ρ} {f : ι → α → Rs ι ρ} {n : Nat} (h : ALen ra n) : ∀ vs H Q E, spIT K P z q ra rr f vs H Q E → vs.length = n + 1 := fun vs H Q E ⟨G, p, ws, ho, st, a, e, _, _, _, _, _, hr, _⟩ => by
  rw [e, List.length_cons, h _ _ _ _ _ hr]
theorem d_IT {K : PySem.W.Frag} {P : Addr} {z : Str} {cx : Str → Addr} {E : XK} {N : List Str} {vs : List V} {Q : VK} {rr : RS V ρ} {t : TS} {mb : ε → So ε ρ} {q : ORep ι} {l : Ln ε ι} {ra : IR (List V) α} {e0 : ι → α → ε} {dn : Option ρ} {E' : XK} (hs : SX ⟨K, E', cx⟩ (eTb P z R) rr t mb) (at' : OwAt (eTb P z R) 0 (ownI 0) q l)
    (h0 : ∀ G H p ho st ws a, hide H P p = some ho → G p = none → q.rel K G ho st → Sub G H → ra K G (hide (hide H P) p) ws a → R.rel K ⟨G, H, [p, P], fun _ => none, fun _ => none⟩ G (hide H P) (start N (.ref p :: ws)) (e0 st a)) (hd : ∀ b, dn = some b → ∀ F G H, rr.rel K F G H .non b H)
    (h : spIT K P z q ra rr (fun st a => (mb (e0 st a)).runI l dn) vs H Q E) : t { nx := fun _ H' => Q .non H', rt := Q } (start N vs) H := by
  obtain ⟨G, p, ws, ho, st, a, rfl, h1, h2, h3, s, tb, hr, pp⟩ := h
  refine hs ⟨G, H, [p, P], fun _ => none, fun _ => none⟩ G H _ (e0 st a) (.start s) ⟨tb, ⟨List.mem_cons_of_mem _ (List.mem_singleton.mpr rfl), rfl, rfl⟩, h0 G H p ho st ws a h1 h2 h3 s.1 hr⟩ _ ?_
  have look : ∀ {G' H' : Hp} {σ' : Sg} {e : ε} {x : ι}, (eTb P z R).rel K ⟨G, H, [p, P], fun _ => none, fun _ => none⟩ G' H' σ' e → l.get e = some x → ∃ ho', H' p = some ho' ∧ G' p = none ∧ q.rel K G' ho' x := fun hR hx => by
    obtain ⟨L, ho', _, b2, b3, b4, b5, _⟩ := at'.rd hR hx
    have : p = L := by simpa [ownI] using b4.1
    subst this
    exact ⟨ho', b2, b3, b5⟩
  have pp : PostIT K ⟨G, H, [p, P], fun _ => none, fun _ => none⟩ p P z q rr Q ((mb (e0 st a)).runI l dn) := pp
  cases z0 : mb (e0 st a) with
  | rt b e =>
    rw [z0] at pp
    unfold So.runI at pp
    cases z : l.get e with
    | none => simp only [z] at pp; exact False.elim pp
    | some x =>
      simp only [z] at pp
      exact fun v σ' G' H' H1 i _ hv hR => let ⟨ho', b1, b2, b3⟩ := look hR z; pp v G' H' H1 ho' i hv hR.1 b1 b2 b3
  | nx e =>
    rw [z0] at pp
    unfold So.runI at pp
    cases z : l.get e with
    | none => simp only [z] at pp; exact False.elim pp
    | some x =>
      simp only [z] at pp
      cases dn with
      | none => exact False.elim pp
      | some b => exact fun σ' G' H' i _ hR => let ⟨ho', b1, b2, b3⟩ := look hR z; pp .non G' H' H' ho' i (hd b rfl _ _ _) hR.1 b1 b2 b3
  | ex c e =>
    rw [z0] at pp
    unfold So.runI at pp
    cases z : l.get e with
    | none => simp only [z] at pp; exact False.elim pp
    | some x => simp only [z] at pp; exact False.elim pp
  | bk e => rw [z0] at pp; exact False.elim pp
  | ct e => rw [z0] at pp; exact False.elim pp
  | bad => rw [z0] at pp; exact False.elim pp
/-- a call of such a def, no argument beside the changed one -/
theorem x_callIT {P : Addr} {z : Str} {n : Nat} {own : Frm → Addr → Prop} {l : Ln ε ι} {q : ORep ι} {r : Rep ρ} {f : ι → Unit → Rs ι ρ} (at' : OwAt (eTb P z R) n own q l) (ho : OwnQ own) :
    EX M (eTb P z R) (tCall (spIT M.K P z q aNil (fz r) f) [] M.E (tCons (tVar n) tNil)) (fz r) (mCallI l f (mC ())) := fun F G H σ e i hR Q p => by
  unfold mCallI at p
  cases h0 : l.get e with
  | none => rw [h0] at p; exact p.elim
  | some st =>
    rw [h0] at p
    obtain ⟨L, hob, h1, h4, h5, h6, h7, h8⟩ := at'.rd hR h0
    obtain ⟨tb, o, rr⟩ := id hR
    have nP := h8.1.show.1
    refine ⟨_, h1, ?_⟩
    show spIT M.K P z q aNil (fz r) f [V.ref L] H Q M.E
    dsimp only [mC, Rs.bind] at p
    rw [h0] at p
    dsimp only at p
    refine ⟨G, L, [], hob, st, (), rfl, by rw [hide_ne nP.symm]; exact h4, h5, h7, ⟨i.gh, i.tp⟩, tb, rfl, ?_⟩
    revert p
    cases f st () with
    | ok b st' =>
      rintro p v G' H' Hx ho' j ⟨hr, rfl⟩ tb' e2 e3 e4
      have gP : G' P = none := by
        obtain ⟨_, _, h, _⟩ := tb'
        exact h
      have hp : ∀ p ∈ [L, P], (F.H0 p = none ∨ p ∈ F.ws) ∧ F.X p = none ∧ F.Y p = none ∧ G' p = none := fun p hp => by
        rcases List.mem_cons.mp hp with rfl | hp
        · exact ⟨(ho _ _ h6).1, (ho _ _ h6).2.1, (ho _ _ h6).2.2, e3⟩
        · obtain rfl := List.mem_singleton.mp hp
          exact ⟨.inr o.1, o.2.1, o.2.2, gP⟩
      refine p v G' _ _ (i.after j hp) j.g0 ⟨hr, rfl⟩ (at'.bk ⟨tb'.hide nP, o, R.mono j.g0 (fun b u hb => ?_) (fun b hb hn => j.new b (hide_sub.ne (hide_sub.ne hb)) hn) h8.2.2⟩ h1 e2 e3 h6 e4)
      obtain ⟨n1, hb⟩ := hide_some hb
      obtain ⟨n2, hb⟩ := hide_some hb
      rw [hide_ne n1, hide_ne n2]
      exact j.fr b u (by simp [n1, n2]) hb
    | ex c st' => exact id
    | bad => exact id
end
section
variable {α β ε ρ : Type} {M : Mx} {R : ERep ε} {rr : RS V ρ} {F : Frm} {G G1 H : Hp} {σ : Sg}
def PostW (M : Mx) (R : ERep ε) (rr : RS V ρ) (F : Frm) (D : Ends) : So ε ρ → Prop
  | .nx e' => ∀ σ' G' H', IV F G' H' → R.rel M.K F G' H' σ' e' → D.nx σ' H'
  | .bk e' => ∀ σ' G' H', IV F G' H' → R.rel M.K F G' H' σ' e' → D.bk σ' H'
  | .ct e' => ∀ σ' G' H', IV F G' H' → R.rel M.K F G' H' σ' e' → D.ct σ' H'
  | .rt a e' => ∀ v σ' G' H' H1, IV F G' H' → rr.rel M.K F G' H' v a H1 → R.rel M.K F G' H1 σ' e' → D.rt v H'
  | .ex c e' => ∀ cls d σ' G' H', IV F G' H' → R.rel M.K F G' H' σ' e' → xr M G' c cls d → M.E cls d H'
  | .bad => False
theorem PostW.s {D : Ends} {x : So ε ρ} (h : PostW M R rr F D x) : PostS M R rr F G D x := by
  cases x with
  | nx e => exact fun σ' G' H' i _ => h σ' G' H' i
  | bk e => exact fun σ' G' H' i _ => h σ' G' H' i
  | ct e => exact fun σ' G' H' i _ => h σ' G' H' i
  | rt a e => exact fun v σ' G' H' H1 i _ => h v σ' G' H' H1 i
  | ex c e => exact fun cls d σ' G' H' i _ => h cls d σ' G' H' i
  | bad => exact h
def SXW (M : Mx) (R : ERep ε) (rr : RS V ρ) (t : TS) (m : ε → So ε ρ) : Prop := ∀ F G H σ e, IV F G H → R.rel M.K F G H σ e → ∀ D, PostW M R rr F D (m e) → t D σ H
theorem SX.w {t : TS} {m : ε → So ε ρ} (h : SX M R rr t m) : SXW M R rr t m := fun F G H σ e i hR D p => h F G H σ e i hR D p.s
theorem wx_seq {t u : TS} {m n : ε → So ε ρ} (h : SXW M R rr t m) (k : SXW M R rr u n) : SXW M R rr (tSeq t u) (mSeq m n) := fun F G H σ e i hR D p => by
  refine h F G H σ e i hR _ ?_
  unfold mSeq at p
  revert p
  cases m e with
  | nx e1 => exact fun p σ' G' H' i1 R1 => k F G' H' σ' e1 i1 R1 D p
  | bk e1 => exact id
  | ct e1 => exact id
  | rt a e1 => exact id
  | ex c e1 => exact id
  | bad => exact id
theorem Rs.so_w {D : Ends} {x : Rs ε α} {f : α → ε → So ε ρ} {ν : Type} {rs : RS ν α} {Q : ν → Hp → Prop} (p : PostW M R rr F D (x.so f)) (k : ∀ v a e1 G1 H1 H1', IV F G1 H1 → rs.rel M.K F G1 H1 v a H1' → R.rel M.K F G1 H1' σ e1 → PostW M R rr F D (f a e1) → Q v H1) : Post M R F G σ rs Q x := by
  cases x with
  | ok a e => exact fun v G' H' H1 i _ hr hR => k v a e G' H' H1 i hr hR p
  | ex c e => exact fun cls d G' H' i _ hR hx => p cls d σ G' H' i hR hx
  | bad => exact p
theorem wx_if {c : TT} {t u : TS} {mc : ε → Rs ε Bool} {m n : ε → So ε ρ} (hc : EX M R c (fz bR) mc) (h : SXW M R rr t m) (k : SXW M R rr u n) : SXW M R rr (tIfS c t u) (mIfS mc m n) := fun F G H σ e i hR D p =>
  hc F G H σ e i hR _ (Rs.so_w p fun v a e1 G1 H1 H1' i1 hr R1 p1 => by
    have e : v = a := hr.1
    subst e
    rw [hr.2] at R1
    cases v with
    | true => exact h F G1 H1 σ e1 i1 R1 D p1
    | false => exact k F G1 H1 σ e1 i1 R1 D p1)
end
def Zf (F : Frm) : Prop := (∀ b u, F.H0 b = some u → ∃ o v, u = .frz o v) ∧ ∀ b u, F.G0 b = some u → ∃ o v, u = .frz o v
def eZ {ε : Type} (R : ERep ε) : ERep ε := ⟨fun K F G H σ e => Zf F ∧ R.rel K F G H σ e, fun g h n ⟨t, r⟩ => ⟨t, R.mono g h n r⟩, fun ⟨t, r⟩ => ⟨t, R.lock r⟩, fun ⟨t, r⟩ => ⟨t, R.unlock r⟩⟩
section
variable {α β ε ρ : Type} {R : ERep ε} {n : Nat} {r : Rep α} {q : ORep α} {own : Frm → Addr → Prop} {l : Ln ε α}
theorem LkR.z (h : LkR R) : LkR (eZ R) := ⟨fun ⟨t, b⟩ => ⟨t, h.lk b⟩, fun ⟨t, b⟩ => ⟨t, h.ul b⟩⟩
def NonL (o : HO) : Prop := ∀ vs, o ≠ .lst vs
def Kept (G G' : Hp) : Prop := ∀ b o, G b = some o → NonL o → G' b = some o
def StR {ν : Type} (r : GR ν α) : Prop := ∀ {K G G' v a}, Kept G G' → r.rel K G v a → r.rel K G' v a
theorem st_I : StR rI := fun _ h => h
theorem st_S : StR rS := fun _ h => h
theorem st_T (h : StR r) : StR (rT r) := fun k ⟨L, ho, h1, h2, vs, h3, h4⟩ => ⟨L, ho, h1, k _ _ h2 (fun vs e => by rw [h3] at e; cases e), vs, h3, h4.mono fun _ _ => h k⟩
theorem st_Scr : StR rScr := fun {K G G' v a} k ⟨p, h1, h2⟩ => ⟨p, h1, by
  rcases h2 with ⟨o, h⟩ | h
  · exact .inl ⟨o, k _ _ h fun vs e => by cases e⟩
  · exact .inr h⟩
theorem st_L3 {r' : Rep β} {γ : Type} {r'' : Rep γ} (h : StR r) (h' : StR r') (h'' : StR r'') : StR (oL3 r r' r'') := fun k ⟨v, w, x, h1, h2, h3, h4⟩ => ⟨v, w, x, h1, h k h2, h' k h3, h'' k h4⟩
/-- the names behind such a change -/
structure Stb (R : ERep ε) (k : ε → ε) : Prop where
  st : ∀ {K F G G' H H' σ e}, Kept G G' → (∀ b, G' b ≠ none → G b ≠ none) → (∀ b o, G b = none → H b = some o → H' b = some o) → R.rel K F G H σ e → R.rel K F G' H' σ (k e)
theorem Stb.nil : Stb eNil id := ⟨fun _ _ _ h => h⟩
theorem Stb.fr {k : ε → ε} (hr : StR r) (h : Stb R k) : Stb (eFr r R) (fun e => (e.1, k e.2)) := ⟨fun a b c ⟨o, σ', h1, h2, h3⟩ => ⟨o, σ', h1, fun x hx => let ⟨v, h4, h5⟩ := h2 x hx; ⟨v, h4, hr a h5⟩, h.st a b c h3⟩⟩
theorem Stb.ow [op : OwnP own] {k : ε → ε} (hq : StR q) (h : Stb R k) : Stb (eOwP own q R) (fun e => (e.1, k e.2)) := ⟨fun {K F G G' H H' σ e} a b c ⟨o, σ', h1, h2⟩ => by
  refine ⟨o, σ', h1, ?_⟩
  rcases h2 with ⟨z, w⟩ | ⟨x, L, ho, a1, a2, a3, a4, a5, a6, a7⟩
  · exact .inl ⟨z, h.st a b c w⟩
  · refine .inr ⟨x, L, ho, a1, a2, c _ _ a4 a3, ?_, a5, hq a a6, h.st a b (fun d u g e => ?_) a7⟩
    · cases z : G' L with
      | none => rfl
      | some u => exact absurd a4 (b L (by rw [z]; intro z; cases z))
    · obtain ⟨n1, e1⟩ := hide_some e
      rw [hide_ne n1]
      exact c d u g e1⟩
variable {γ : Type}
end
variable {ε : Type} {R : ERep ε}
def gIdx (xs : List Int) (k : Int) : Option Int := if k ∈ xs then some ((xs.idxOf k : Nat) : Int) else none
theorem x_idx {M : Mx} {to : TE} {ta : TA} {m : ε → Rs ε (List Int)} {m' : ε → Rs ε Int} (h : EX M R to (fz (rL rI)) m) (k : EX M R ta (fz (gOne rI)) m') : EX M R (tBM M.K "list" (rIndex M.K) to ta) (fz rI) (mOp gIdx m m') := fun F G H σ e i hR Q p =>
  h F G H σ e i hR _ (p.bind fz_h fun v a e1 G1 H1 i1 s1 R1 r1 p1 => by
    obtain ⟨⟨L, ho, rfl, hg, vs, rfl, ha⟩, _⟩ := r1
    have e0 := A2.eqMap ha
    subst e0
    refine ⟨.inl ⟨rfl, _, sql_h (i1.gh _ _ hg)⟩, k F G1 H1 σ e1 i1 R1 _ (p1.bind fz_h fun vs b e2 G2 H2 i2 s2 R2 r2 p2 => ?_)⟩
    obtain ⟨⟨w, rfl, rfl⟩, _⟩ := r2
    obtain ⟨c, hc, p3⟩ := of_some p2
    obtain ⟨hz, rfl⟩ := of_ite hc
    have hlt := List.idxOf_lt_length_iff.mpr hz
    refine ⟨L, _, .int b, a.idxOf b, .int b, rfl, rfl, sql_h (i2.gh _ _ (s2 _ _ hg)), rfl, ?_, ?_, ?_, ?_, p3 _ G2 H2 H2 i2 .refl ⟨rfl, rfl⟩ R2⟩
    · rw [List.all_map, List.all_eq_true]
      exact fun _ _ => rfl
    · rw [List.getElem?_map, List.getElem?_eq_getElem hlt, List.getElem_idxOf]
      rfl
    · simp [eqV]
    · intro m z' hm hz'
      rw [List.getElem?_map] at hz'
      obtain ⟨x, hx, rfl⟩ := Option.map_eq_some_iff.mp hz'
      have := List.not_of_lt_findIdx (p := fun y => y == b) (xs := a) hm
      obtain ⟨hl, hx⟩ := List.getElem?_eq_some_iff.mp hx
      rw [hx] at this
      simp [eqV]
      simpa using this)
namespace PySem
end PySem
open PySem PySem.Spec PyProof.Rows L2
namespace L2
open PySem PySem.Spec PyProof.Rows
end L2
open PySem PySem.Spec PyProof.Rows L2
section
variable {κ : Type} {ε : Type} {M : Mx} {R : ERep ε}
def gVNin (c : Bool) (kbs : List (κ × Bool)) : Option Bool := some (!decide (c ∈ kbs.map (·.2)))
end
namespace L2
open PySem PySem.Spec PyProof.Rows
end L2
open PySem PySem.Spec PyProof.Rows L2
section
variable {α β γ ε : Type} {M : Mx} {R : ERep ε}
def gKeys {κ : Type} (kbs : List (κ × β)) : Option (List κ) := some (keysOf kbs)
end
def hideS (H : Hp) (S : List Addr) : Hp := fun b => if b ∈ S then none else H b
section
variable {H H' G G' : Hp} {S S' : List Addr} {L b : Addr} {o : HO}
theorem hideS_in (h : b ∈ S) : hideS H S b = none := if_pos h
theorem hideS_ne (h : b ∉ S) : hideS H S b = H b := if_neg h
theorem hideS_some (h : hideS H S b = some o) : b ∉ S ∧ H b = some o := by
  by_cases e : b ∈ S
  · rw [hideS_in e] at h; cases h
  · exact ⟨e, by rwa [hideS_ne e] at h⟩
theorem hideS_sub : Sub (hideS H S) H := fun b o h => (hideS_some h).2
theorem Sub.hideS (a : Sub H H') : Sub (hideS H S) (hideS H' S) := fun b o h => by
  obtain ⟨n, e⟩ := hideS_some h
  rw [hideS_ne n]; exact a b o e
theorem hideS_nil : hideS H [] = H := by
  funext b; exact hideS_ne List.not_mem_nil
theorem hideS_hide : hideS (hide H L) S = hide (hideS H S) L := by
  funext b
  unfold hideS hide
  by_cases e : b ∈ S <;> by_cases e' : b = L <;> simp [e, e']
end
/-- a value and the addresses of its own parts -/
structure DRep (α : Type) where
  rel : PySem.W.Frag → Hp → Hp → List Addr → V → α → Prop
  gm : ∀ {K G G' H S v a}, Sub G G' → rel K G H S v a → rel K G' H S v a
  loc : ∀ {K G H H' S v a}, (∀ b ∈ S, H' b = H b) → rel K G H S v a → rel K G H' S v a
  ne : ∀ {K G H S v a}, rel K G H S v a → ∀ b ∈ S, ∃ o, H b = some o ∧ ∀ xs, o ≠ .tup xs
  cg : ∀ {K G H S S' v a}, (∀ b, b ∈ S' ↔ b ∈ S) → rel K G H S v a → rel K G H S' v a
section
variable {α β γ : Type} {K : PySem.W.Frag} {G G' H H' : Hp} {S S' : List Addr} {v : V} {a : α}
theorem DRep.hm {d : DRep α} (s : Sub H H') (h : d.rel K G H S v a) : d.rel K G H' S v a :=
  d.loc (fun b hb => let ⟨o, e, _⟩ := d.ne h b hb; by rw [e, s _ _ e]) h
theorem DRep.nn {d : DRep α} (h : d.rel K G H S v a) (b : Addr) (hb : b ∈ S) : H b ≠ none := let ⟨o, e, _⟩ := d.ne h b hb; by rw [e]; intro z; cases z
/-- an object that holds frozen things -/
def dq (q : ORep α) (nt : NT q) : DRep α := ⟨fun K G H S v a => ∃ L ho, v = .ref L ∧ (∀ b, b ∈ S ↔ b = L) ∧ H L = some ho ∧ q.rel K G ho a, fun s ⟨L, ho, h1, h2, h3, h4⟩ => ⟨L, ho, h1, h2, h3, q.mono s h4⟩,
  fun e ⟨L, ho, h1, h2, h3, h4⟩ => ⟨L, ho, h1, h2, by rw [e L ((h2 L).mpr rfl)]; exact h3, h4⟩, fun ⟨L, ho, h1, h2, h3, h4⟩ b hb => by
    obtain rfl := (h2 b).mp hb
    exact ⟨ho, h3, nt _ _ _ _ h4⟩, fun e ⟨L, ho, h1, h2, h3, h4⟩ => ⟨L, ho, h1, fun b => (e b).trans (h2 b), h3, h4⟩⟩
/-- values one by one, their parts apart -/
inductive DAs (d : DRep α) (K : PySem.W.Frag) (G H : Hp) : List Addr → List V → List α → Prop
  | nil {T : List Addr} (e : ∀ b, b ∉ T) : DAs d K G H T [] []
  | cons {T T1 T2 : List Addr} {x : V} {xs : List V} {y : α} {ys : List α} (h : d.rel K G H T1 x y) (dj : ∀ b ∈ T1, b ∉ T2) (eq : ∀ b, b ∈ T ↔ b ∈ T1 ∨ b ∈ T2) (t : DAs d K G H T2 xs ys) : DAs d K G H T (x :: xs) (y :: ys)
section
variable {d : DRep α} {vs ws : List V} {as bs : List α}
theorem DAs.gm (s : Sub G G') (h : DAs d K G H S vs as) : DAs d K G' H S vs as := by
  induction h with
  | nil e => exact .nil e
  | cons h dj eq _ ih => exact .cons (d.gm s h) dj eq ih
theorem DAs.loc (e : ∀ b ∈ S, H' b = H b) (h : DAs d K G H S vs as) : DAs d K G H' S vs as := by
  induction h with
  | nil e' => exact .nil e'
  | cons h dj eq _ ih => exact .cons (d.loc (fun b hb => e b ((eq b).mpr (.inl hb))) h) dj eq (ih fun b hb => e b ((eq b).mpr (.inr hb)))
theorem DAs.ne (h : DAs d K G H S vs as) : ∀ b ∈ S, ∃ o, H b = some o ∧ ∀ xs, o ≠ .tup xs := by
  induction h with
  | nil e => exact fun b hb => absurd hb (e b)
  | cons h dj eq _ ih => exact fun b hb => ((eq b).mp hb).elim (d.ne h b) (ih b)
theorem DAs.cg (e : ∀ b, b ∈ S' ↔ b ∈ S) (h : DAs d K G H S vs as) : DAs d K G H S' vs as := by
  cases h with
  | nil e' => exact .nil fun b hb => e' b ((e b).mp hb)
  | cons h dj eq t => exact .cons h dj (fun b => (e b).trans (eq b)) t
theorem DAs.length (h : DAs d K G H S vs as) : vs.length = as.length := by
  induction h with
  | nil _ => rfl
  | cons _ _ _ _ ih => simp [ih]
/-- two rows, one behind the other -/
theorem DAs.app {S1 S2 : List Addr} (h : DAs d K G H S1 vs as) (h' : DAs d K G H S2 ws bs) (dj : ∀ b ∈ S1, b ∉ S2) (eq : ∀ b, b ∈ S ↔ b ∈ S1 ∨ b ∈ S2) : DAs d K G H S (vs ++ ws) (as ++ bs) := by
  induction h generalizing S with
  | nil e => exact h'.cg fun b => by rw [eq b]; exact ⟨fun z => z.elim (fun z => absurd z (e b)) id, .inr⟩
  | @cons T T1 T2 v vs a as h dj1 eq1 t ih =>
    have dj2 : ∀ b ∈ T2, b ∉ S2 := fun b hb => dj b ((eq1 b).mpr (.inr hb))
    refine .cons (T2 := T2 ++ S2) h (fun b hb z => ?_) (fun b => ?_) (ih dj2 fun b => List.mem_append)
    · rcases List.mem_append.mp z with z | z
      · exact dj1 b hb z
      · exact dj b ((eq1 b).mpr (.inl hb)) z
    · rw [eq b, eq1 b, List.mem_append, or_assoc]
/-- one of them, and what may stand in its place -/
theorem DAs.at (h : DAs d K G H S vs as) {i : Nat} (ha : as[i]? = some a) : ∃ v S1 S2, vs[i]? = some v ∧ d.rel K G H S1 v a ∧ (∀ b, b ∈ S ↔ b ∈ S1 ∨ b ∈ S2) ∧ (∀ b ∈ S1, b ∉ S2) ∧
    (∀ {G' H' S1' v' a' S'}, Sub G G' → (∀ b ∈ S2, H' b = H b) → d.rel K G' H' S1' v' a' → (∀ b ∈ S1', b ∉ S2) → (∀ b, b ∈ S' ↔ b ∈ S1' ∨ b ∈ S2) → DAs d K G' H' S' (vs.set i v') (as.set i a')) ∧
    DAs d K G H S2 (vs.eraseIdx i) (as.eraseIdx i) := by
  induction h generalizing i with
  | nil e => simp at ha
  | @cons T T1 T2 w vs x as h dj eq t ih =>
    cases i with
    | zero =>
      simp at ha
      subst ha
      exact ⟨w, T1, T2, rfl, h, eq, dj, fun s e hr dj' eq' => .cons hr dj' eq' ((t.gm s).loc e), t⟩
    | succ i =>
      obtain ⟨v, S1, S2, e1, e2, e3, e4, e5, e6⟩ := ih (by simpa using ha)
      refine ⟨v, S1, T1 ++ S2, by simpa using e1, e2, fun b => ?_, fun b hb z => ?_, ?_, ?_⟩
      · rw [eq b, e3 b, List.mem_append]
        constructor
        · rintro (z | z | z)
          · exact .inr (.inl z)
          · exact .inl z
          · exact .inr (.inr z)
        · rintro (z | z | z)
          · exact .inr (.inl z)
          · exact .inl z
          · exact .inr (.inr z)
      · rcases List.mem_append.mp z with z | z
        · exact dj b z ((e3 b).mpr (.inl hb))
        · exact e4 b hb z
      · intro G' H' S1' v' a' S' s e hr dj' eq'
        refine .cons (T2 := S1' ++ S2) (d.gm s (d.loc (fun b hb => e b (List.mem_append.mpr (.inl hb))) h)) (fun b hb z => ?_) (fun b => ?_) (e5 s (fun b hb => e b (List.mem_append.mpr (.inr hb))) hr (fun b hb z => dj' b hb (List.mem_append.mpr (.inr z))) fun b => List.mem_append)
        · rcases List.mem_append.mp z with z | z
          · exact dj' b z (List.mem_append.mpr (.inl hb))
          · exact dj b hb ((e3 b).mpr (.inr z))
        · rw [eq' b, List.mem_append, List.mem_append]
          constructor
          · rintro (z | z | z)
            · exact .inr (.inl z)
            · exact .inl z
            · exact .inr (.inr z)
          · rintro (z | z | z)
            · exact .inr (.inl z)
            · exact .inl z
            · exact .inr (.inr z)
      · exact .cons h (fun b hb z => dj b hb ((e3 b).mpr (.inr z))) (fun b => List.mem_append) e6
end
/-- a list of such -/
def dL (d : DRep α) : DRep (List α) := ⟨fun K G H S v as => ∃ L S' vs, v = .ref L ∧ (∀ b, b ∈ S ↔ b = L ∨ b ∈ S') ∧ L ∉ S' ∧ H L = some (.lst vs) ∧ DAs d K G H S' vs as,
  fun s ⟨L, S', vs, h1, h2, h3, h4, h5⟩ => ⟨L, S', vs, h1, h2, h3, h4, h5.gm s⟩,
  fun e ⟨L, S', vs, h1, h2, h3, h4, h5⟩ => ⟨L, S', vs, h1, h2, h3, by rw [e L ((h2 L).mpr (.inl rfl))]; exact h4, h5.loc fun b hb => e b ((h2 b).mpr (.inr hb))⟩,
  fun ⟨L, S', vs, h1, h2, h3, h4, h5⟩ b hb => by
    rcases (h2 b).mp hb with rfl | z
    · exact ⟨_, h4, fun xs z => by cases z⟩
    · exact h5.ne b z,
  fun e ⟨L, S', vs, h1, h2, h3, h4, h5⟩ => ⟨L, S', vs, h1, fun b => (e b).trans (h2 b), h3, h4, h5⟩⟩
/-- a dict of such, keyed by tuples of numbers; by numbers -/
def dD (d : DRep β) : DRep (List (List Int × β)) := ⟨fun K G H S v as => ∃ L S' kvs, v = .ref L ∧ (∀ b, b ∈ S ↔ b = L ∨ b ∈ S') ∧ L ∉ S' ∧ H L = some (.dT kvs) ∧ (kvs.map (fun p : List Key × V => p.1) = as.map (fun p : List Int × β => kTup.f p.1) ∧ (as.map fun p : List Int × β => p.1).Nodup) ∧ DAs d K G H S' (kvs.map fun p : List Key × V => p.2) (as.map fun p : List Int × β => p.2),
  fun s ⟨L, S', vs, h1, h2, h3, h4, h5, h6⟩ => ⟨L, S', vs, h1, h2, h3, h4, h5, by exact DAs.gm s h6⟩,
  fun e ⟨L, S', vs, h1, h2, h3, h4, h5, h6⟩ => ⟨L, S', vs, h1, h2, h3, by rw [e L ((h2 L).mpr (.inl rfl))]; exact h4, h5, by exact DAs.loc (fun b hb => e b ((h2 b).mpr (.inr hb))) h6⟩,
  fun ⟨L, S', vs, h1, h2, h3, h4, h5, h6⟩ b hb => by
    rcases (h2 b).mp hb with rfl | z
    · exact ⟨_, h4, fun xs z => by cases z⟩
    · exact DAs.ne h6 b z,
  fun e ⟨L, S', vs, h1, h2, h3, h4, h5⟩ => ⟨L, S', vs, h1, fun b => (e b).trans (h2 b), h3, h4, h5⟩⟩
end
def DFz {α : Type} (d : DRep α) (r : Rep α) : Prop := ∀ {K G G' H S v a}, d.rel K G H S v a → Sub G G' → (∀ b ∈ S, G' b = H b) → r.rel K G' v a
def OwS (own : Frm → Addr → Prop) (F : Frm) (G : Hp) (S : List Addr) : Prop := ∀ b ∈ S, own F b ∧ G b = none
/-- handed in to be changed, and what is new since then -/
def ownW : Frm → Addr → Prop := fun F L => (F.H0 L = none ∨ L ∈ F.ws) ∧ F.X L = none ∧ F.Y L = none
theorem ownW_q : OwnQ ownW := fun _ _ h => h
instance ownW_p : OwnP ownW := by
  refine ⟨fun h n => ⟨h.1, (upd_ne n).trans h.2.1, h.2.2⟩, fun {F L D o} h => ?_, fun h n => ⟨h.1, h.2.1, (upd_ne n).trans h.2.2⟩, fun {F L D o} h => ?_⟩
  · have n : L ≠ D := fun z => by
      have := h.2.1
      rw [z] at this
      exact nomatch (show some o = none from upd_same.symm.trans this)
    exact ⟨n, h.1, (upd_ne n).symm.trans h.2.1, h.2.2⟩
  · have n : L ≠ D := fun z => by
      have := h.2.2
      rw [z] at this
      exact nomatch (show some o = none from upd_same.symm.trans this)
    exact ⟨n, h.1, h.2.1, (upd_ne n).symm.trans h.2.2⟩
def eDp {α ε : Type} (own : Frm → Addr → Prop) [op : OwnP own] (d : DRep α) (R : ERep ε) : ERep (Option α × ε) :=
  ⟨fun K F G H σ e => ∃ o σ', σ = o :: σ' ∧ ((e.1 = none ∧ R.rel K F G H σ' e.2) ∨ ∃ x v S, e.1 = some x ∧ o = some v ∧ d.rel K G H S v x ∧ OwS own F G S ∧ R.rel K F G (hideS H S) σ' e.2), fun {K F G G' H H' σ e} g h n ⟨o, σ', h1, h2⟩ => by
    refine ⟨o, σ', h1, ?_⟩
    rcases h2 with ⟨a, b⟩ | ⟨x, v, S, a1, a2, a3, a4, a5⟩
    · exact .inl ⟨a, R.mono g h n b⟩
    · refine .inr ⟨x, v, S, a1, a2, d.gm g (d.hm h a3), fun b hb => ⟨(a4 b hb).1, ?_⟩, R.mono g h.hideS (fun b hb hn => n b (hideS_sub.ne hb) hn) a5⟩
      cases z : G' b with
      | none => rfl
      | some u => exact absurd (a4 b hb).2 (n b (d.nn a3 b hb) (by rw [z]; intro z; cases z)),
   fun {K F G H σ e D o'} ⟨o, σ', h1, h2⟩ => by
    refine ⟨o, σ', h1, ?_⟩
    rcases h2 with ⟨a, b⟩ | ⟨x, v, S, a1, a2, a3, a4, a5⟩
    · exact .inl ⟨a, R.lock b⟩
    · exact .inr ⟨x, v, S, a1, a2, d.hm hide_sub a3, fun b hb => ⟨op.lock (a4 b hb).1 (fun z => d.nn a3 b hb (by rw [z]; exact hide_same)), (a4 b hb).2⟩, R.lock (by rw [← hideS_hide]; exact a5)⟩,
   fun {K F G H σ e D o'} ⟨o, σ', h1, h2⟩ => by
    refine ⟨o, σ', h1, ?_⟩
    rcases h2 with ⟨a, b⟩ | ⟨x, v, S, a1, a2, a3, a4, a5⟩
    · exact .inl ⟨a, R.unlock b⟩
    · have n : ∀ b ∈ S, b ≠ D := fun b hb => (op.unlock (a4 b hb).1).1
      exact .inr ⟨x, v, S, a1, a2, d.loc (fun b hb => hide_ne (n b hb)) a3, fun b hb => ⟨(op.unlock (a4 b hb).1).2, (a4 b hb).2⟩, by rw [hideS_hide]; exact R.unlock a5⟩⟩
structure DpAt {α ε : Type} (R : ERep ε) (n : Nat) (own : Frm → Addr → Prop) (d : DRep α) (l : Ln ε α) : Prop where
  rd : ∀ {K F G H σ e a}, R.rel K F G H σ e → l.get e = some a → ∃ v S, σ[n]? = some (some v) ∧ d.rel K G H S v a ∧ OwS own F G S ∧ R.rel K F G (hideS H S) σ (l.put none e)
  bk : ∀ {K F G H σ e v S a}, R.rel K F G (hideS H S) σ e → σ[n]? = some (some v) → d.rel K G H S v a → OwS own F G S → R.rel K F G H σ (l.put (some a) e)
  wr : ∀ {K F G H σ e v S a}, R.rel K F G (hideS H S) σ e → d.rel K G H S v a → OwS own F G S → R.rel K F G H (σ.set n (some v)) (l.put (some a) e)
  kl : ∀ {K F G H σ e}, R.rel K F G H σ e → R.rel K F G H σ (l.put none e)
section
variable {α β ε : Type} {R : ERep ε} {n : Nat} {r : Rep α} {q : ORep α} {d : DRep α} {own own' : Frm → Addr → Prop} [op : OwnP own] [op' : OwnP own'] {l : Ln ε α} {r' : Rep β} {q' : ORep β} {d' : DRep β}
theorem DpAt.z : DpAt (eDp own d R) 0 own d Ln.z := by
  refine ⟨?_, ?_, ?_, ?_⟩
  · rintro K F G H σ e a ⟨o, σ', rfl, ⟨h1, h2⟩ | ⟨x, v, S, a1, a2, a3, a4, a5⟩⟩ hh
    · rw [show (Ln.z : Ln _ α).get e = e.1 from rfl, h1] at hh; cases hh
    · rw [show (Ln.z : Ln _ α).get e = e.1 from rfl, a1] at hh
      cases hh
      exact ⟨v, S, by rw [a2]; rfl, a3, a4, o, _, rfl, .inl ⟨rfl, a5⟩⟩
  · rintro K F G H σ e v S a ⟨o, σ', rfl, ⟨h1, h2⟩ | ⟨x, v', S', a1, a2, a3, a4, a5⟩⟩ hs hd ow
    · exact ⟨o, _, rfl, .inr ⟨a, v, S, rfl, by simpa using hs, hd, ow, h2⟩⟩
    · exact ⟨o, _, rfl, .inr ⟨a, v, S, rfl, by simpa using hs, hd, ow, R.mono .refl hideS_sub (fun b _ h => h) a5⟩⟩
  · rintro K F G H σ e v S a ⟨o, σ', rfl, ⟨h1, h2⟩ | ⟨x, v', S', a1, a2, a3, a4, a5⟩⟩ hd ow
    · exact ⟨_, _, rfl, .inr ⟨a, v, S, rfl, rfl, hd, ow, h2⟩⟩
    · exact ⟨_, _, rfl, .inr ⟨a, v, S, rfl, rfl, hd, ow, R.mono .refl hideS_sub (fun b _ h => h) a5⟩⟩
  · rintro K F G H σ e ⟨o, σ', rfl, ⟨h1, h2⟩ | ⟨x, v', S', a1, a2, a3, a4, a5⟩⟩
    · exact ⟨o, _, rfl, .inl ⟨rfl, h2⟩⟩
    · exact ⟨o, _, rfl, .inl ⟨rfl, R.mono .refl hideS_sub (fun b _ h => h) a5⟩⟩
theorem LkR.dp (h : LkR R) : LkR (eDp own d R) := by
  refine ⟨?_, ?_⟩
  · rintro K F G H σ e D o' ⟨o, σ', h1, h2⟩
    refine ⟨o, σ', h1, ?_⟩
    rcases h2 with ⟨a, b⟩ | ⟨x, v, S, a1, a2, a3, a4, a5⟩
    · exact .inl ⟨a, h.lk b⟩
    · exact .inr ⟨x, v, S, a1, a2, d.hm hide_sub a3, fun b hb => ⟨op.lockY (a4 b hb).1 (fun z => d.nn a3 b hb (by rw [z]; exact hide_same)), (a4 b hb).2⟩, h.lk (by rw [← hideS_hide]; exact a5)⟩
  · rintro K F G H σ e D o' ⟨o, σ', h1, h2⟩
    refine ⟨o, σ', h1, ?_⟩
    rcases h2 with ⟨a, b⟩ | ⟨x, v, S, a1, a2, a3, a4, a5⟩
    · exact .inl ⟨a, h.ul b⟩
    · have n : ∀ b ∈ S, b ≠ D := fun b hb => (op.unlockY (a4 b hb).1).1
      exact .inr ⟨x, v, S, a1, a2, d.loc (fun b hb => hide_ne (n b hb)) a3, fun b hb => ⟨(op.unlockY (a4 b hb).1).2, (a4 b hb).2⟩, by rw [hideS_hide]; exact h.ul a5⟩
theorem Kl.dp {l : Ln ε α} (a : DpAt R n own d l) : Kl R (l.put none) := ⟨a.kl⟩
end
/-- a new value, all its parts one's own -/
def fd {α : Type} (d : DRep α) : RS V α := ⟨fun K F G H v a H1 => ∃ S, d.rel K G H S v a ∧ OwS ownN F G S ∧ H1 = hideS H S⟩
section
variable {ν α β γ ε ρ κ : Type} {M : Mx} {R R' : ERep ε} {F : Frm} {G G' H H' : Hp} {σ : Sg} {n : Nat} {l : Ln ε α} {own : Frm → Addr → Prop} {rr : RS V ρ} {d : DRep α} {d' : DRep β} {r : Rep α}
abbrev fr0 (G H : Hp) : Frm := ⟨G, H, [], fun _ => none, fun _ => none⟩
/-- an expression that changes nothing -/
def EXP (M : Mx) (R : ERep ε) (t : Sg → Hp → (ν → Hp → Prop) → Prop) (rs : RS ν α) (m : ε → Rs ε α) : Prop :=
  ∀ F G H σ e, IV F G H → R.rel M.K F G H σ e → ∀ Q, (∃ a e', m e = .ok a e' ∧ ∀ v G' H' H1, IV F G' H' → Sub G G' → Sub H H' → (∀ b, H b ≠ none → G' b ≠ none → G b ≠ none) → rs.rel M.K (fr0 G H) G' H' v a H1 → Q v H') → t σ H Q
def mView (m : ε → Rs ε α) : ε → Rs ε α := fun e => match m e with
  | .ok a _ => .ok a e
  | _ => .bad
theorem EXP.ex {t : Sg → Hp → (ν → Hp → Prop) → Prop} {r : GR ν α} {m : ε → Rs ε α} (h : EXP M R t (fz r) m) : EX M R t (fz r) (mView m) := fun F G H σ e i hR Q p => by
  refine h F G H σ e i hR Q ?_
  unfold mView at p
  revert p
  cases m e with
  | ok a e' => exact fun p => ⟨a, e', rfl, fun v G' H' H1 i1 s1 s2 n hr => p v G' H' _ i1 s1 ⟨hr.1, rfl⟩ (R.mono s1 s2 n hR)⟩
  | ex c e' => exact fun p => p.elim
  | bad => exact fun p => p.elim
/-- the same names, all that is one's own frozen or borrowed -/
structure VwR (R R' : ERep ε) : Prop where
  to : ∀ {K F G Ht H σ e}, IV F G Ht → Sub H Ht → R.rel K F G H σ e → ∃ S : List Addr, (∀ b ∈ S, G b = none ∧ ∃ o, H b = some o ∧ ∀ xs, o ≠ .tup xs) ∧
    ∀ {G1}, Sub G G1 → (∀ b ∈ S, G1 b = Ht b) → R'.rel K (fr0 G1 Ht) G1 Ht σ e
theorem VwR.nil : VwR eNil eNil := ⟨fun _ _ h => ⟨[], fun b hb => absurd hb List.not_mem_nil, fun _ _ => h⟩⟩
section
variable {R1 R1' : ERep ε} [op : OwnP own]
theorem VwR.fr {r : Rep α} (h : VwR R1 R1') : VwR (eFr r R1) (eFr r R1') := ⟨fun i s ⟨o, σ', h1, h2, h3⟩ => by
  obtain ⟨S, k1, k2⟩ := h.to i s h3
  exact ⟨S, k1, fun s1 s2 => ⟨o, σ', h1, fun x hx => let ⟨v, a, b⟩ := h2 x hx; ⟨v, a, r.mono s1 b⟩, k2 s1 s2⟩⟩⟩
theorem VwR.dp {d : DRep α} {r : Rep α} (k : DFz d r) (h : VwR R1 R1') : VwR (eDp own d R1) (eFr r R1') := ⟨fun {K F G Ht H σ e} i s ⟨o, σ', h1, h2⟩ => by
  rcases h2 with ⟨a, b⟩ | ⟨x, v, S0, a1, a2, a3, a4, a5⟩
  · obtain ⟨S, k1, k2⟩ := h.to i s b
    exact ⟨S, k1, fun s1 s2 => ⟨o, σ', h1, fun x hx => (by rw [a] at hx; cases hx), k2 s1 s2⟩⟩
  · obtain ⟨S, k1, k2⟩ := h.to i (hideS_sub.trans s) a5
    refine ⟨S0 ++ S, fun b hb => ?_, fun s1 s2 => ⟨o, σ', h1, fun y hy => ?_, k2 s1 fun b hb => s2 b (List.mem_append.mpr (.inr hb))⟩⟩
    · rcases List.mem_append.mp hb with hb | hb
      · exact ⟨(a4 b hb).2, d.ne a3 b hb⟩
      · exact ⟨(k1 b hb).1, let ⟨o, e1, e2⟩ := (k1 b hb).2; ⟨o, (hideS_some e1).2, e2⟩⟩
    · rw [a1] at hy
      cases hy
      refine ⟨v, a2, k a3 s1 fun b hb => ?_⟩
      obtain ⟨o', e1, _⟩ := d.ne a3 b hb
      rw [s2 b (List.mem_append.mpr (.inl hb)), e1, s _ _ e1]⟩
end
end
namespace L2
open PySem PySem.Spec PyProof.Rows
end L2
open PySem PySem.Spec PyProof.Rows L2
section
variable {ν ν' α β γ ε ρ κ : Type} {M : Mx} {R R' : ERep ε} {F : Frm} {G G' H H' : Hp} {σ : Sg} {n : Nat} {own : Frm → Addr → Prop} {rr : RS V ρ} {d : DRep α} {r : Rep α}
theorem tyL_h {K : PySem.W.Frag} {L : Addr} {vs : List V} (h : H L = some (.lst vs)) : tyV K "list" (.ref L) H := .inl ⟨rfl, _, sql_h h⟩
/-- xs.append(y), y new -/
def mAppD (l : Ln ε (List α)) (m : ε → Rs ε α) : ε → Rs ε Unit := fun e => match l.get e with
  | none => .bad
  | some _ => (m e).bind fun a e1 => match l.get e1 with
    | none => .bad
    | some xs => if xs.length < 1000000 then .ok () (l.put (some (xs ++ [a])) (l.put none e1)) else .bad
/-- xs.insert(0, y), y new -/
def mInsD (l : Ln ε (List α)) (m : ε → Rs ε α) : ε → Rs ε Unit := fun e => match l.get e with
  | none => .bad
  | some _ => (m e).bind fun a e1 => match l.get e1 with
    | none => .bad
    | some xs => if xs.length < 1000000 then .ok () (l.put (some (a :: xs)) (l.put none e1)) else .bad
/-- found.setdefault(k, []).append(x) -/
def mSdApp (l : Ln ε (List (List Int × List α))) (mk : ε → Rs ε (List Int)) (mx : ε → Rs ε α) : ε → Rs ε Unit := fun e => match l.get e with
  | none => .bad
  | some _ => (mk e).bind fun k e1 => match l.get e1 with
    | none => .bad
    | some kbs => match mx (l.put none e1) with
      | .ok x _ => if kbs.length < 1000000 ∧ ((dget kbs k).getD []).length < 1000000 then .ok () (l.put (some (dput kbs k ((dget kbs k).getD [] ++ [x]))) (l.put none e1)) else .bad
      | _ => .bad
end
section
variable {ν ν' α β γ ε ρ κ : Type} {M : Mx} {R R' : ERep ε} {F : Frm} {G G' H H' : Hp} {σ : Sg} {n : Nat} {own : Frm → Addr → Prop} {rr : RS V ρ} {d : DRep α} {r : Rep α} {K : PySem.W.Frag}
def gSortKI {β : Type} (kbs : List (Int × β)) : Option (List Int) := if kbs.length ≤ 1000000 then some ((keysOf kbs).mergeSort leI) else none
/-- x[0].append(None): then x is some list -/
def mSp1 (l : Ln ε (Option (List (List α)))) : ε → So ε ρ := fun e => match l.get e with
  | some (some (a :: as)) => if a.length < 1000000 ∧ as.length < 1000000 then .nx (l.put (some none) (l.put none e)) else .bad
  | _ => .bad
/-- x.append([]): then x is done with -/
def mSp2 (l : Ln ε (Option (List α))) : ε → So ε ρ := fun e => match l.get e with
  | some none => .nx (l.put none e)
  | _ => .bad
/-- what may be spoilt is not -/
def gSp (o : Option α) : Option α := o
end
namespace PySem
open Sem (wp)
end PySem
open PySem PySem.Spec PyProof.Rows L2
namespace L2
open PySem PySem.Spec PyProof.Rows
end L2
open PySem PySem.Spec PyProof.Rows L2
section
variable {ε α β ρ : Type} {e : ε} {N C B : ε → Prop} {T : ρ → ε → Prop}
theorem rp_view {m : ε → Rs ε α} {Q : α → ε → Prop} : RsP (mView m e) Q = RsP (m e) fun a _ => Q a e := by
  unfold mView
  simp only [RsP_eq]
  cases m e <;> rfl
theorem rp_appD {l : Ln ε (List α)} {m : ε → Rs ε α} {Q : Unit → ε → Prop} : RsP (mAppD l m e) Q = OpP (l.get e) fun _ => RsP (m e) fun a e1 => OpP (l.get e1) fun xs => xs.length < 1000000 ∧ Q () (l.put (some (xs ++ [a])) (l.put none e1)) := by
  unfold mAppD
  simp only [RsP_eq, OpP_eq]
  cases l.get e with
  | none => rfl
  | some x =>
    simp only [rp_bind_0, OpP0]
    congr; funext a e1
    cases l.get e1 with
    | none => rfl
    | some xs =>
      dsimp only
      by_cases h : xs.length < 1000000
      · rw [if_pos h]; simp only [h, true_and]; rfl
      · rw [if_neg h]; simp only [h, false_and]; rfl
theorem rp_insD {l : Ln ε (List α)} {m : ε → Rs ε α} {Q : Unit → ε → Prop} : RsP (mInsD l m e) Q = OpP (l.get e) fun _ => RsP (m e) fun a e1 => OpP (l.get e1) fun xs => xs.length < 1000000 ∧ Q () (l.put (some (a :: xs)) (l.put none e1)) := by
  unfold mInsD
  simp only [RsP_eq, OpP_eq]
  cases l.get e with
  | none => rfl
  | some x =>
    simp only [rp_bind_0, OpP0]
    congr; funext a e1
    cases l.get e1 with
    | none => rfl
    | some xs =>
      dsimp only
      by_cases h : xs.length < 1000000
      · rw [if_pos h]; simp only [h, true_and]; rfl
      · rw [if_neg h]; simp only [h, false_and]; rfl
theorem rp_sdApp {l : Ln ε (List (List Int × List α))} {mk : ε → Rs ε (List Int)} {mx : ε → Rs ε α} {Q : Unit → ε → Prop} : RsP (mSdApp l mk mx e) Q = OpP (l.get e) fun _ => RsP (mk e) fun k e1 => OpP (l.get e1) fun kbs => RsP (mx (l.put none e1)) fun x _ =>
    (kbs.length < 1000000 ∧ ((dget kbs k).getD []).length < 1000000) ∧ Q () (l.put (some (dput kbs k ((dget kbs k).getD [] ++ [x]))) (l.put none e1)) := by
  unfold mSdApp
  simp only [RsP_eq, OpP_eq]
  cases l.get e with
  | none => rfl
  | some x =>
    simp only [rp_bind_0, OpP0]
    congr; funext k e1
    cases l.get e1 with
    | none => rfl
    | some kbs =>
      dsimp only
      cases mx (l.put none e1) with
      | ok x e' =>
        dsimp only
        by_cases h : kbs.length < 1000000 ∧ ((dget kbs k).getD []).length < 1000000
        · rw [if_pos h]; exact propext ⟨fun q => ⟨h, q⟩, fun q => q.2⟩
        · rw [if_neg h]; exact propext ⟨fun q => q.elim, fun q => absurd q.1 h⟩
      | ex c e' => rfl
      | bad => rfl
def SpOk (xs : List (List α)) : Prop := ∃ a as, xs = a :: as ∧ a.length < 1000000 ∧ as.length < 1000000
theorem sp_sp1 {l : Ln ε (Option (List (List α)))} : SoP (mSp1 l e : So ε ρ) N C B T = OpP (l.get e) fun o => OpP o fun xs => SpOk xs ∧ N (l.put (some none) (l.put none e)) := by
  unfold mSp1
  simp only [SoP_eq, OpP_eq]
  cases l.get e with
  | none => rfl
  | some o =>
    cases o with
    | none => rfl
    | some xs =>
      cases xs with
      | nil => exact propext ⟨fun h => h.elim, fun ⟨⟨a, as, h, _⟩, _⟩ => nomatch h⟩
      | cons a as =>
        dsimp only
        by_cases h : a.length < 1000000 ∧ as.length < 1000000
        · rw [if_pos h]; exact propext ⟨fun q => ⟨⟨a, as, rfl, h⟩, q⟩, fun q => q.2⟩
        · rw [if_neg h]; exact propext ⟨fun q => q.elim, fun ⟨⟨a', as', h1, h2⟩, _⟩ => by cases h1; exact absurd h2 h⟩
theorem sp_sp2 {l : Ln ε (Option (List α))} : SoP (mSp2 l e : So ε ρ) N C B T = OpP (l.get e) fun o => o = none ∧ N (l.put none e) := by
  unfold mSp2
  simp only [SoP_eq, OpP_eq]
  cases l.get e with
  | none => rfl
  | some o =>
    cases o with
    | none => exact propext ⟨fun h => ⟨rfl, h⟩, fun h => h.2⟩
    | some xs => exact propext ⟨fun h => h.elim, fun h => nomatch h.1⟩
end
section
variable {X : Cx}
/-- the least of some faces -/
def minF : List (List Int) → List Int
  | [] => []
  | x :: xs => xs.foldl (fun a y => if y < a then y else a) x
end
section
variable {ε β : Type} {M : Mx} {R : ERep ε} {K : PySem.W.Frag}
def gMinT (fs : List (List Int)) : Option (List Int) := if fs = [] then none else some (minF fs)
def gBits (i : Int) : Option Int := some (Builtin.Int.intBits i : Nat)
end
section
variable {ν α β γ ε ρ : Type} {M : Mx} {R R' : ERep ε} {K : PySem.W.Frag} {F : Frm} {G G' H H' : Hp} {σ : Sg} {n : Nat} {l : Ln ε α} {own : Frm → Addr → Prop} {rr : RS V ρ}
def rngD (i j : Int) : List Int := (List.range (i - j).toNat).map fun (k : Nat) => i - (k : Int)
def mRngD (m : ε → Rs ε (Int × Int × Int)) : ε → Rs ε (List Int) := fun e => (m e).bind fun n e1 => if bigI n.1 = true ∧ bigI n.2.1 = true ∧ n.2.2 = -1 then .ok (rngD n.1 n.2.1) e1 else .bad
def srtT (fs : List (List Int)) : List (List Int) := fs.mergeSort tLe
def gSortTp (fs : List (List Int)) : Option (List (List Int)) := if fs.length ≤ 1000000 then some (srtT fs) else none
def gLkd (l : Ln ε γ) (x : γ) (e : ε) : Option ε := match l.get e with
  | none => none
  | some _ => some (l.put (some x) (l.put none e))
def mLockS (l : Ln ε γ) (m : ε → So ε ρ) : ε → So ε ρ := fun e => match l.get e with
  | none => .bad
  | some x => match m (l.put (some x) e) with
    | .nx e1 => match gLkd l x e1 with | some e2 => .nx e2 | none => .bad
    | .ct e1 => match gLkd l x e1 with | some e2 => .ct e2 | none => .bad
    | .bk e1 => match gLkd l x e1 with | some e2 => .bk e2 | none => .bad
    | _ => .bad
/-- only this one stands still; what stood still stays as it is -/
def _root_.Ws.Frm.lk2 (F : Frm) (L : Addr) (ho : HO) : Frm := { F with X := fun b => match F.X b with | some o => some o | none => F.Y b, Y := fun b => if b = L then some ho else none }
theorem lk2_X {F : Frm} {L b : Addr} {ho : HO} : (F.lk2 L ho).X b = none ↔ F.X b = none ∧ F.Y b = none := by
  show (match F.X b with | some o => some o | none => F.Y b) = none ↔ _
  cases F.X b with
  | none => simp
  | some o => simp
theorem lk2_Y {F : Frm} {L b : Addr} {ho : HO} : (F.lk2 L ho).Y b = none ↔ b ≠ L := by
  show (if b = L then some ho else none) = none ↔ _
  by_cases z : b = L
  · rw [if_pos z]; simp [z]
  · rw [if_neg z]; simp [z]
class OwnP2 (own : Frm → Addr → Prop) : Prop where
  lk : ∀ {F L D o}, own F L → L ≠ D → own (F.lk2 D o) L
  ul : ∀ {F L D o}, own (F.lk2 D o) L → L ≠ D ∧ own F L
instance ownN_p2 : OwnP2 ownN := ⟨fun h n => ⟨h.1, lk2_X.mpr ⟨h.2.1, h.2.2⟩, lk2_Y.mpr n⟩, fun h => ⟨lk2_Y.mp h.2.2, h.1, (lk2_X.mp h.2.1).1, (lk2_X.mp h.2.1).2⟩⟩
instance ownI_p2 {k : Nat} : OwnP2 (ownI k) := ⟨fun h n => ⟨h.1, lk2_X.mpr ⟨h.2.1, h.2.2⟩, lk2_Y.mpr n⟩, fun h => ⟨lk2_Y.mp h.2.2, h.1, (lk2_X.mp h.2.1).1, (lk2_X.mp h.2.1).2⟩⟩
instance ownW_p2 : OwnP2 ownW := ⟨fun h n => ⟨h.1, lk2_X.mpr ⟨h.2.1, h.2.2⟩, lk2_Y.mpr n⟩, fun h => ⟨lk2_Y.mp h.2.2, h.1, (lk2_X.mp h.2.1).1, (lk2_X.mp h.2.1).2⟩⟩
structure LkR2 (R : ERep ε) : Prop where
  lk : ∀ {K F G H σ e L ho}, R.rel K F G (hide H L) σ e → R.rel K (F.lk2 L ho) G H σ e
  ul : ∀ {K F G H σ e L ho}, R.rel K (F.lk2 L ho) G H σ e → R.rel K F G (hide H L) σ e
section
variable {R1 R1' : ERep ε} {own own' : Frm → Addr → Prop} [op : OwnP own] [op2 : OwnP2 own] {q : ORep α} {d : DRep α} {r : Rep α}
theorem LkR2.nil : LkR2 eNil := ⟨fun h => h, fun h => h⟩
theorem LkR2.fr (h : LkR2 R) : LkR2 (eFr r R) := ⟨fun ⟨o, σ', h1, h2, h3⟩ => ⟨o, σ', h1, h2, h.lk h3⟩, fun ⟨o, σ', h1, h2, h3⟩ => ⟨o, σ', h1, h2, h.ul h3⟩⟩
theorem LkR2.dp (h : LkR2 R) : LkR2 (eDp own d R) := by
  refine ⟨?_, ?_⟩
  · rintro K F G H σ e D o' ⟨o, σ', h1, h2⟩
    refine ⟨o, σ', h1, ?_⟩
    rcases h2 with ⟨a, b⟩ | ⟨x, v, S, a1, a2, a3, a4, a5⟩
    · exact .inl ⟨a, h.lk b⟩
    · exact .inr ⟨x, v, S, a1, a2, d.hm hide_sub a3, fun b hb => ⟨op2.lk (a4 b hb).1 (fun z => d.nn a3 b hb (by rw [z]; exact hide_same)), (a4 b hb).2⟩, h.lk (by rw [← hideS_hide]; exact a5)⟩
  · rintro K F G H σ e D o' ⟨o, σ', h1, h2⟩
    refine ⟨o, σ', h1, ?_⟩
    rcases h2 with ⟨a, b⟩ | ⟨x, v, S, a1, a2, a3, a4, a5⟩
    · exact .inl ⟨a, h.ul b⟩
    · have n : ∀ b ∈ S, b ≠ D := fun b hb => (op2.ul (a4 b hb).1).1
      exact .inr ⟨x, v, S, a1, a2, d.loc (fun b hb => hide_ne (n b hb)) a3, fun b hb => ⟨(op2.ul (a4 b hb).1).2, (a4 b hb).2⟩, by rw [hideS_hide]; exact h.ul a5⟩
end
structure Sw2 (R R' : ERep ε) (n : Nat) (q' : ORep α) (l : Ln ε α) : Prop where
  to : ∀ {K F G H σ e L ho a}, R.rel K F G (hide H L) σ (l.put none e) → σ[n]? = some (some (.ref L)) → q'.rel K G ho a → R'.rel K (F.lk2 L ho) G H σ (l.put (some a) e)
  bk : ∀ {K F G H σ e L ho}, R'.rel K (F.lk2 L ho) G H σ e → R.rel K F G (hide H L) σ (l.put none e)
  at' : PrAt R' n q' l
section
variable {R1 R1' : ERep ε} {own own' : Frm → Addr → Prop} [op : OwnP own] [op' : OwnP own'] [op2 : OwnP2 own'] {q : ORep α} {q' : ORep β} {d' : DRep β} {r' : Rep β} {l : Ln ε α}
theorem Sw2.z {q1 : ORep α} (h : LkR2 R) : Sw2 (eOwP own q R) (ePr q1 R) 0 q1 Ln.z := by
  refine ⟨?_, ?_, PrAt.z⟩
  · rintro K F G H σ e L ho a ⟨o, σ', rfl, ⟨h1, h2⟩ | ⟨x, L', ho', a1, a2, a3, a4, a5, a6, a7⟩⟩ hs hq
    · exact ⟨o, σ', rfl, fun x hx => ⟨L, ho, by simpa using hs, if_pos rfl, by cases hx; exact hq⟩, h.lk h2⟩
    · cases a1
  · rintro K F G H σ e L ho ⟨o, σ', rfl, h1, h2⟩
    exact ⟨o, σ', rfl, .inl ⟨rfl, h.ul h2⟩⟩
end
def mAt0App (l : Ln ε (List (List α))) (mx : ε → Rs ε α) : ε → Rs ε Unit := fun e => match l.get e with
  | some (x :: xs) => match mx e with
    | .ok a _ => if x.length < 1000000 ∧ xs.length < 1000000 then .ok () (l.put (some ((x ++ [a]) :: xs)) (l.put none e)) else .bad
    | _ => .bad
  | _ => .bad
theorem rp_at0App {l : Ln ε (List (List α))} {e : ε} {mx : ε → Rs ε α} {Q : Unit → ε → Prop} : RsP (mAt0App l mx e) Q = OpP (l.get e) fun o => RsP (mx e) fun a _ => (∃ x xs, o = x :: xs ∧ (x.length < 1000000 ∧ xs.length < 1000000) ∧ Q () (l.put (some ((x ++ [a]) :: xs)) (l.put none e))) := by
  unfold mAt0App
  simp only [RsP_eq, OpP_eq]
  cases l.get e with
  | none => rfl
  | some o =>
    cases o with
    | nil =>
      refine propext ⟨fun h => h.elim, fun h => ?_⟩
      cases hm : mx e with
      | bad => rw [hm] at h; exact h
      | ex c e' => rw [hm] at h; exact h
      | ok y e' => rw [hm] at h; obtain ⟨x, xs, z, _⟩ := h; cases z
    | cons x xs =>
      dsimp only
      cases mx e with
      | bad => rfl
      | ex c e' => rfl
      | ok y e' =>
        dsimp only
        by_cases hz : x.length < 1000000 ∧ xs.length < 1000000
        · rw [if_pos hz]; exact propext ⟨fun q => ⟨x, xs, rfl, hz, q⟩, fun ⟨_, _, z, _, q⟩ => by cases z; exact q⟩
        · rw [if_neg hz]; exact propext ⟨fun q => q.elim, fun ⟨_, _, z, q, _⟩ => by cases z; exact absurd q hz⟩
theorem rp_rngD {m : ε → Rs ε (Int × Int × Int)} {e : ε} {Q : List Int → ε → Prop} : RsP (mRngD m e) Q = RsP (m e) fun n e1 => (bigI n.1 = true ∧ bigI n.2.1 = true ∧ n.2.2 = -1) ∧ Q (rngD n.1 n.2.1) e1 := by
  unfold mRngD
  simp only [RsP_eq, rp_bind_0]
  congr; funext n e1
  by_cases h : bigI n.1 = true ∧ bigI n.2.1 = true ∧ n.2.2 = -1
  · rw [if_pos h]; exact propext ⟨fun q => ⟨h, q⟩, fun q => q.2⟩
  · rw [if_neg h]; exact propext ⟨fun q => q.elim, fun q => absurd q.1 h⟩
theorem sp_lockS {l : Ln ε γ} {m : ε → So ε ρ} {e : ε} {N C B : ε → Prop} {T : ρ → ε → Prop} : SoP (mLockS l m e) N C B T = OpP (l.get e) fun x => SoP (m (l.put (some x) e)) (fun e1 => OpP (l.get e1) fun _ => N (l.put (some x) (l.put none e1))) (fun e1 => OpP (l.get e1) fun _ => C (l.put (some x) (l.put none e1))) (fun e1 => OpP (l.get e1) fun _ => B (l.put (some x) (l.put none e1))) (fun _ _ => False) := by
  unfold mLockS gLkd
  simp only [SoP_eq, OpP_eq]
  cases l.get e with
  | none => rfl
  | some x =>
    dsimp only [OpP0]
    cases m (l.put (some x) e) with
    | bad => rfl
    | ex c e1 => rfl
    | rt a e1 => rfl
    | nx e1 => cases z : l.get e1 <;> simp only [SoP0, z]
    | bk e1 => cases z : l.get e1 <;> simp only [SoP0, z]
    | ct e1 => cases z : l.get e1 <;> simp only [SoP0, z]
end
section
variable {α β : Type} {K : PySem.W.Frag}
def dputsT (kbs more : List (List Int × β)) : List (List Int × β) := more.foldl (fun acc kv => dput acc kv.1 kv.2) kbs
def gDictPT (rows : List (List Int × β)) : Option (List (List Int × β)) := some (dputsT [] rows)
def gKeysT (kbs : List (List Int × β)) : Option (List (List Int)) := if kbs.length ≤ 1000000 then some (keysOf kbs) else none
end
namespace L2
open PySem PySem.Spec PyProof.Rows
end L2
open PySem PySem.Spec PyProof.Rows L2
section
variable {ν ν' α β γ ε ρ κ : Type} {M : Mx} {R R' : ERep ε} {F : Frm} {G G' H H' : Hp} {σ : Sg} {n : Nat} {own : Frm → Addr → Prop} {rr : RS V ρ} {K : PySem.W.Frag}
def gPopK [DecidableEq κ] (kbs : List (κ × β)) (k : κ) : Option (β × List (κ × β)) := (dget kbs k).map fun b => (b, ddel kbs k)
/-- above.pop(k) -/
def mPopD (l : Ln ε (List (List Int × β))) (mk : ε → Rs ε (List Int)) : ε → So ε ρ := fun e => match l.get e with
  | none => .bad
  | some _ => (mk e).so fun k e1 => match l.get e1 with
    | none => .bad
    | some kbs => if (dget kbs k).isSome = true then .nx (l.put (some (ddel kbs k)) (l.put none e1)) else .bad
/-- above[k1].pop(k2) -/
def mSubPop (l : Ln ε (List (List Int × List (List Int × β)))) (m1 m2 : ε → Rs ε (List Int)) : ε → So ε ρ := fun e => match l.get e with
  | none => .bad
  | some _ => (m1 e).so fun k1 e1 => match l.get e1 with
    | none => .bad
    | some kbs => match dget kbs k1 with
      | none => .bad
      | some b => match m2 e1 with
        | .ok k2 _ => if (dget b k2).isSome = true then .nx (l.put (some (dput kbs k1 (ddel b k2))) (l.put none e1)) else .bad
        | _ => .bad
/-- found[k1][k2] = v -/
def mPut2 (l : Ln ε (List (List Int × List (List Int × β)))) (m1 m2 : ε → Rs ε (List Int)) (mv : ε → Rs ε β) : ε → So ε ρ := fun e => (mv e).so fun y e0 => match l.get e0 with
  | none => .bad
  | some _ => (m1 e0).so fun k1 e1 => match l.get e1 with
    | none => .bad
    | some kbs => match dget kbs k1 with
      | none => .bad
      | some b => match m2 e1 with
        | .ok k2 _ => if b.length < 1000000 then .nx (l.put (some (dput kbs k1 (dput b k2 y))) (l.put none e1)) else .bad
        | _ => .bad
end
section
variable {α β ε : Type} {M : Mx} {R : ERep ε} {n : Nat}
def mDictDD (l : Ln ε (List Int)) (it : ε → Rs ε (List (List Int))) : ε → Rs ε (List (List Int × List (List Int × β))) := fun e => (it e).bind fun fs e1 => if fs.length ≤ 1000000 ∧ fs.Nodup then .ok (fs.map fun f => (f, [])) e1 else .bad
/-- the rows that are laid: the pair, the dict, the key -/
def DDRow (K : PySem.W.Frag) (H1 G H : Hp) (r : Addr × Addr × V) (f : List Int) : Prop := G r.1 = some (.tup [r.2.2, .ref r.2.1]) ∧ (rT rI).rel K G r.2.2 f ∧ H r.2.1 = some (.dT []) ∧ G r.2.1 = none ∧ H1 r.2.1 = none
theorem DDRow.up {K : PySem.W.Frag} {H1 G H G' H' : Hp} {r : Addr × Addr × V} {f : List Int} (s : Sub G G') (s' : Sub H H') (nw : ∀ b, H b ≠ none → G' b ≠ none → G b ≠ none) (h : DDRow K H1 G H r f) : DDRow K H1 G' H' r f :=
  ⟨s _ _ h.1, (rT rI).mono s h.2.1, s' _ _ h.2.2.1, (by
    cases z : G' r.2.1 with
    | none => rfl
    | some o => exact absurd h.2.2.2.1 (nw _ (by rw [h.2.2.1]; intro z; cases z) (by rw [z]; intro z; cases z))), h.2.2.2.2⟩
theorem DDRow.ne {K : PySem.W.Frag} {H1 G H : Hp} {L : Addr} {vs : List V} {o : HO} {r : Addr × Addr × V} {f : List Int} (hL : H L = some (.lst vs)) (h : DDRow K H1 G H r f) : DDRow K H1 G (upd H L o) r f :=
  ⟨h.1, h.2.1, by rw [upd_ne (fun z => by rw [← z] at hL; rw [h.2.2.1] at hL; cases hL)]; exact h.2.2.1, h.2.2.2.1, h.2.2.2.2⟩
end
section
variable {α β ε : Type} {M : Mx} {R : ERep ε}
def gSortFK (kbs : List (List Int × β)) : Option (List (List Int)) := if kbs.length ≤ 1000000 ∧ (∀ f ∈ keysOf kbs, f.length ≤ 1000000) then some (srtF (keysOf kbs)) else none
end
section
variable {ν α β γ ε ρ ι κ : Type} {M : Mx} {R R' : ERep ε} {F : Frm} {G G' H H' : Hp} {σ : Sg} {n : Nat} {own : Frm → Addr → Prop} {rr : RS V ρ} {K : PySem.W.Frag}
/-- the first name's value stays -/
def eHd (R : ERep ε) : ERep ε := ⟨fun K F G H σ e => R.rel K F G H σ e ∧ ∃ L, σ.head? = some (some (.ref L)) ∧ F.ws.head? = some L, fun g h n ⟨a, b⟩ => ⟨R.mono g h n a, b⟩, fun ⟨a, b⟩ => ⟨R.lock a, b⟩, fun ⟨a, b⟩ => ⟨R.unlock a, b⟩⟩
theorem head_set {σ : Sg} {x : Option V} : (σ.set (n + 1) x).head? = σ.head? := by cases σ <;> rfl
theorem FrAt.hd {r : Rep α} {l : Ln ε α} (h : FrAt R (n + 1) r l) : FrAt (eHd R) (n + 1) r l :=
  ⟨fun ⟨a, _⟩ x => h.rd a x, fun ⟨a, b⟩ x => ⟨h.wr a x, by rw [head_set]; exact b⟩, fun ⟨a, b⟩ => ⟨h.kl a, b⟩, fun ⟨a, b⟩ => ⟨h.wn a, by rw [head_set]; exact b⟩, fun ⟨a, b⟩ s ⟨c, d⟩ => ⟨h.rs a s c, by rw [head_set] at d; exact d⟩⟩
theorem OwAt.hd {q : ORep α} {l : Ln ε α} (h : OwAt R (n + 1) own q l) : OwAt (eHd R) (n + 1) own q l :=
  ⟨fun ⟨a, b⟩ x => let ⟨L, ho, c1, c2, c3, c4, c5, c6⟩ := h.rd a x; ⟨L, ho, c1, c2, c3, c4, c5, c6, b⟩, fun ⟨a, b⟩ c1 c2 c3 c4 c5 => ⟨h.bk a c1 c2 c3 c4 c5, b⟩, fun ⟨a, b⟩ c1 c2 c3 c4 => ⟨h.wr a c1 c2 c3 c4, by rw [head_set]; exact b⟩, fun ⟨a, b⟩ => ⟨h.kl a, b⟩⟩
theorem BoAt.hd {q : ORep α} {l : Ln ε α} (h : BoAt R n q l) : BoAt (eHd R) n q l := ⟨fun ⟨a, _⟩ x => h.rd a x⟩
theorem DpAt.hd {d : DRep α} {l : Ln ε α} (h : DpAt R (n + 1) own d l) : DpAt (eHd R) (n + 1) own d l :=
  ⟨fun ⟨a, b⟩ x => let ⟨v, S, c1, c2, c3, c4⟩ := h.rd a x; ⟨v, S, c1, c2, c3, c4, b⟩, fun ⟨a, b⟩ c1 c2 c3 => ⟨h.bk a c1 c2 c3, b⟩, fun ⟨a, b⟩ c1 c2 => ⟨h.wr a c1 c2, by rw [head_set]; exact b⟩, fun ⟨a, b⟩ => ⟨h.kl a, b⟩⟩
theorem VwR.hd (h : VwR R R') : VwR (eHd R) R' := ⟨fun i s ⟨a, _⟩ => h.to i s a⟩
/-- what is a reference, its own address among its parts -/
def DHd (d : DRep ι) : Prop := ∀ {K G H S v a}, d.rel K G H S v a → ∃ L, v = .ref L ∧ L ∈ S
theorem dh_D {d : DRep β} : DHd (dD d) := fun ⟨L, S', kvs, h1, h2, _⟩ => ⟨L, h1, (h2 L).mpr (.inl rfl)⟩
theorem dh_L {d : DRep β} : DHd (dL d) := fun ⟨L, S', vs, h1, h2, _⟩ => ⟨L, h1, (h2 L).mpr (.inl rfl)⟩
end
section
variable {α β γ ε ρ : Type} {M : Mx} {R : ERep ε}
theorem sp_popD {l : Ln ε (List (List Int × β))} {mk : ε → Rs ε (List Int)} {e : ε} {N C B : ε → Prop} {T : ρ → ε → Prop} : SoP (mPopD l mk e : So ε ρ) N C B T = OpP (l.get e) fun _ => RsP (mk e) fun k e1 => OpP (l.get e1) fun kbs => (dget kbs k).isSome = true ∧ N (l.put (some (ddel kbs k)) (l.put none e1)) := by
  unfold mPopD
  simp only [SoP_eq, OpP_eq, RsP_eq]
  cases l.get e with
  | none => rfl
  | some x =>
    simp only [OpP0]
    cases mk e with
    | bad => rfl
    | ex c e1 => rfl
    | ok k e1 =>
      show SoP0 (match l.get e1 with | none => So.bad | some kbs => if (dget kbs k).isSome = true then So.nx (l.put (some (ddel kbs k)) (l.put none e1)) else So.bad) N C B T = _
      show _ = OpP0 (l.get e1) _
      cases l.get e1 with
      | none => rfl
      | some kbs =>
        show SoP0 (if (dget kbs k).isSome = true then So.nx (l.put (some (ddel kbs k)) (l.put none e1)) else So.bad) N C B T = ((dget kbs k).isSome = true ∧ _)
        cases (dget kbs k).isSome with
        | true => exact propext ⟨fun q => ⟨rfl, q⟩, fun q => q.2⟩
        | false => exact propext ⟨fun q => q.elim, fun q => nomatch q.1⟩
theorem sp_subPop {l : Ln ε (List (List Int × List (List Int × β)))} {m1 m2 : ε → Rs ε (List Int)} {e : ε} {N C B : ε → Prop} {T : ρ → ε → Prop} : SoP (mSubPop l m1 m2 e : So ε ρ) N C B T = OpP (l.get e) fun _ => RsP (m1 e) fun k1 e1 => OpP (l.get e1) fun kbs => OpP (dget kbs k1) fun b => RsP (m2 e1) fun k2 _ =>
    (dget b k2).isSome = true ∧ N (l.put (some (dput kbs k1 (ddel b k2))) (l.put none e1)) := by
  unfold mSubPop
  simp only [SoP_eq, OpP_eq, RsP_eq]
  cases l.get e with
  | none => rfl
  | some x =>
    simp only [OpP0]
    cases m1 e with
    | bad => rfl
    | ex c e1 => rfl
    | ok k e1 =>
      show SoP0 (match l.get e1 with | none => So.bad | some kbs => _) N C B T = _
      show _ = OpP0 (l.get e1) _
      cases l.get e1 with
      | none => rfl
      | some kbs =>
        simp only [OpP0]
        cases dget kbs k with
        | none => rfl
        | some b =>
          simp only [OpP0]
          cases m2 e1 with
          | bad => rfl
          | ex c e' => rfl
          | ok k2 e' =>
            show SoP0 (if (dget b k2).isSome = true then So.nx (l.put (some (dput kbs k (ddel b k2))) (l.put none e1)) else So.bad) N C B T = ((dget b k2).isSome = true ∧ _)
            cases (dget b k2).isSome with
            | true => exact propext ⟨fun q => ⟨rfl, q⟩, fun q => q.2⟩
            | false => exact propext ⟨fun q => q.elim, fun q => nomatch q.1⟩
theorem sp_put2 {l : Ln ε (List (List Int × List (List Int × β)))} {m1 m2 : ε → Rs ε (List Int)} {mv : ε → Rs ε β} {e : ε} {N C B : ε → Prop} {T : ρ → ε → Prop} : SoP (mPut2 l m1 m2 mv e : So ε ρ) N C B T = RsP (mv e) fun y e0 => OpP (l.get e0) fun _ => RsP (m1 e0) fun k1 e1 => OpP (l.get e1) fun kbs => OpP (dget kbs k1) fun b => RsP (m2 e1) fun k2 _ =>
    b.length < 1000000 ∧ N (l.put (some (dput kbs k1 (dput b k2 y))) (l.put none e1)) := by
  unfold mPut2
  simp only [SoP_eq, OpP_eq, RsP_eq]
  cases mv e with
  | bad => rfl
  | ex c e1 => rfl
  | ok y e0 =>
    show SoP0 (match l.get e0 with | none => So.bad | some _ => _) N C B T = OpP0 (l.get e0) _
    cases l.get e0 with
    | none => rfl
    | some x =>
      simp only [OpP0]
      cases m1 e0 with
      | bad => rfl
      | ex c e1 => rfl
      | ok k e1 =>
        show SoP0 (match l.get e1 with | none => So.bad | some kbs => _) N C B T = OpP0 (l.get e1) _
        cases l.get e1 with
        | none => rfl
        | some kbs =>
          simp only [OpP0]
          cases dget kbs k with
          | none => rfl
          | some b =>
            simp only [OpP0]
            cases m2 e1 with
            | bad => rfl
            | ex c e' => rfl
            | ok k2 e' =>
              show SoP0 (if b.length < 1000000 then So.nx (l.put (some (dput kbs k (dput b k2 y))) (l.put none e1)) else So.bad) N C B T = (b.length < 1000000 ∧ _)
              by_cases h : b.length < 1000000
              · rw [if_pos h]; exact propext ⟨fun q => ⟨h, q⟩, fun q => q.2⟩
              · rw [if_neg h]; exact propext ⟨fun q => q.elim, fun q => absurd q.1 h⟩
theorem rp_dictDD {l : Ln ε (List Int)} {it : ε → Rs ε (List (List Int))} {e : ε} {Q : List (List Int × List (List Int × β)) → ε → Prop} : RsP (mDictDD l it e) Q = RsP (it e) fun fs e1 => (fs.length ≤ 1000000 ∧ fs.Nodup) ∧ Q (fs.map fun f => (f, [])) e1 := by
  unfold mDictDD
  simp only [RsP_eq, rp_bind_0]
  congr; funext fs e1
  by_cases h : fs.length ≤ 1000000 ∧ fs.Nodup
  · rw [if_pos h]; exact propext ⟨fun q => ⟨h, q⟩, fun q => q.2⟩
  · rw [if_neg h]; exact propext ⟨fun q => q.elim, fun q => absurd q.1 h⟩
theorem op_popK {κ : Type} [DecidableEq κ] {kbs : List (κ × β)} {k : κ} {P : β × List (κ × β) → Prop} : OpP (gPopK kbs k) P = OpP (dget kbs k) fun b => P (b, ddel kbs k) := by
  unfold gPopK
  simp only [OpP_eq]
  cases dget kbs k <;> rfl
theorem op_sortFK {kbs : List (List Int × β)} {P : List (List Int) → Prop} : OpP (gSortFK kbs) P = ((kbs.length ≤ 1000000 ∧ (∀ f ∈ keysOf kbs, f.length ≤ 1000000)) ∧ P (srtF (keysOf kbs))) := by
  unfold gSortFK
  simp only [OpP_eq]
  split
  · next h => exact propext ⟨fun q => ⟨h, q⟩, fun q => q.2⟩
  · next h => exact propext ⟨fun q => q.elim, fun q => absurd q.1 h⟩
end
section
variable {ν α β γ ε ρ κ : Type} {M : Mx} {R R' : ERep ε} {F : Frm} {G G' H H' : Hp} {σ : Sg} {n : Nat} {own : Frm → Addr → Prop} {l : Ln ε α}
/-- the names as they stand, but for one -/
structure VwZ (R R' : ERep ε) (l : Ln ε α) : Prop where
  to : ∀ {K F G Ht H σ e}, IV F G Ht → Sub H Ht → R.rel K F G H σ e → l.get e = none → ∃ S : List Addr, (∀ b ∈ S, G b = none ∧ H b ≠ none ∧ ∃ o, H b = some o ∧ ∀ xs, o ≠ .tup xs) ∧
    ∀ {G1}, Sub G G1 → (∀ b ∈ S, G1 b = Ht b) → R'.rel K (fr0 G1 Ht) G1 Ht σ e
section
variable {R1 R1' : ERep ε} [op : OwnP own]
theorem VwZ.z {d : DRep α} {r : Rep α} (h : VwR R1 R1') : VwZ (eDp own d R1) (eFr r R1') Ln.z := ⟨fun {K F G Ht H σ e} i s ⟨o, σ', h1, h2⟩ hn => by
  rcases h2 with ⟨a, b⟩ | ⟨x, v, S0, a1, a2, a3, a4, a5⟩
  · obtain ⟨S, k1, k2⟩ := h.to i s b
    exact ⟨S, fun b hb => ⟨(k1 b hb).1, (by obtain ⟨o, e1, _⟩ := (k1 b hb).2; rw [e1]; intro z; cases z), (k1 b hb).2⟩, fun s1 s2 => ⟨o, σ', h1, fun x hx => (by rw [a] at hx; cases hx), k2 s1 s2⟩⟩
  · rw [show (Ln.z : Ln _ α).get e = e.1 from rfl, a1] at hn
    cases hn⟩
end
/-- the list told while the dict stands still -/
def mLockV {γ : Type} (l : Ln ε γ) (m : ε → Rs ε α) : ε → Rs ε α := fun e => match l.get e with
  | none => .bad
  | some x => match m (l.put (some x) (l.put none e)) with
    | .ok a _ => .ok a e
    | _ => .bad
end
section
variable {ν α β γ ε ρ κ : Type} {M : Mx} {R R' : ERep ε} {n n1 n2 : Nat} {own : Frm → Addr → Prop} {q1 : ORep α} {q2 : ORep β} {nt1 : NT q1} {nt2 : NT q2}
def mFstApp (l : Ln ε (List α × β)) (mx : ε → Rs ε α) : ε → Rs ε Unit := fun e => match l.get e with
  | some (x, y) => match mx e with
    | .ok a _ => if x.length < 1000000 then .ok () (l.put (some (x ++ [a], y)) (l.put none e)) else .bad
    | _ => .bad
  | none => .bad
def mSndClr (l : Ln ε (α × List β)) : ε → Rs ε Unit := fun e => match l.get e with
  | some (x, _) => .ok () (l.put (some (x, [])) (l.put none e))
  | none => .bad
def gIt2 (p : α × α) : Option (List α) := some [p.1, p.2]
def gItS (p : α × β) : Option (List (α ⊕ β)) := some [.inl p.1, .inr p.2]
end
section
variable {α β ε : Type}
theorem rp_fstApp {l : Ln ε (List α × β)} {e : ε} {mx : ε → Rs ε α} {Q : Unit → ε → Prop} : RsP (mFstApp l mx e) Q = OpP (l.get e) fun o => RsP (mx e) fun a _ => (o.1.length < 1000000 ∧ Q () (l.put (some (o.1 ++ [a], o.2)) (l.put none e))) := by
  unfold mFstApp
  simp only [RsP_eq, OpP_eq]
  cases l.get e with
  | none => rfl
  | some o =>
    obtain ⟨x, y⟩ := o
    dsimp only [OpP0]
    cases mx e with
    | bad => rfl
    | ex c e' => rfl
    | ok a e' =>
      dsimp only
      by_cases hz : x.length < 1000000
      · rw [if_pos hz]; exact propext ⟨fun h => ⟨hz, h⟩, fun h => h.2⟩
      · rw [if_neg hz]; exact propext ⟨fun h => h.elim, fun h => absurd h.1 hz⟩
theorem rp_sndClr {l : Ln ε (α × List β)} {e : ε} {Q : Unit → ε → Prop} : RsP (mSndClr l e) Q = OpP (l.get e) fun o => Q () (l.put (some (o.1, [])) (l.put none e)) := by
  unfold mSndClr
  simp only [RsP_eq, OpP_eq]
  cases l.get e with
  | none => rfl
  | some o => rfl
theorem rp_lockV {γ : Type} {l : Ln ε γ} {m : ε → Rs ε α} {e : ε} {Q : α → ε → Prop} : RsP (mLockV l m e) Q = OpP (l.get e) fun x => RsP (m (l.put (some x) (l.put none e))) fun a _ => Q a e := by
  unfold mLockV
  simp only [OpP_eq, RsP_eq]
  cases l.get e with
  | none => rfl
  | some x =>
    dsimp only [OpP0]
    cases m (l.put (some x) (l.put none e)) <;> rfl
end
section
variable {α β γ ε : Type} {K : PySem.W.Frag} {M : Mx} {R : ERep ε}
def gJoin (a : Str) (ys : List Str) : Option Str := if (ys.map (·.length)).sum + ys.length * a.length ≤ 16777216 then some (Txt.join a ys) else none
def gCutS (z : Str) (lo hi : Option Int) : Option Str := if z.length ≤ 16777216 then some (cutS z lo hi) else none
end
section
variable {K : PySem.W.Frag} {w : World} {X : Cx}
def gSetLS (x : List Int ⊕ List Int) : Option (List Int) := match x with
  | .inl ns => gSet ns
  | .inr ns => gSet ns
end
section
variable {α β ε ρ : Type} {M : Mx} {R : ERep ε} {e : ε}
def mPairM (l : Ln ε α) (m : ε → Rs ε β) : ε → Rs ε (α × β) := fun e => match l.get e with
  | none => .bad
  | some _ => (m e).bind fun b e1 => (mMove l e1).bind fun a e2 => .ok (a, b) e2
theorem rp_pairM {l : Ln ε α} {m : ε → Rs ε β} {Q : α × β → ε → Prop} : RsP (mPairM l m e) Q = OpP (l.get e) fun _ => RsP (m e) fun b e1 => OpP (l.get e1) fun a => Q (a, b) (l.put none e1) := by
  simp only [RsP_eq, OpP_eq]
  unfold mPairM mMove
  cases l.get e with
  | none => rfl
  | some a => cases h : m e with
    | ok b e1 =>
      show RsP0 ((Rs.of (l.get e1) (l.put none e1)).bind fun a e2 => .ok (a, b) e2) Q = OpP0 (l.get e1) fun a => Q (a, b) (l.put none e1)
      cases h2 : l.get e1 <;> rfl
    | ex c e1 => rfl
    | bad => rfl
end
/-- values in a row, each with the addresses of its own parts -/
structure DsRep (α : Type) where
  rel : PySem.W.Frag → Hp → Hp → List Addr → List V → α → Prop
  gm : ∀ {K G G' H S vs a}, Sub G G' → rel K G H S vs a → rel K G' H S vs a
  loc : ∀ {K G H H' S vs a}, (∀ b ∈ S, H' b = H b) → rel K G H S vs a → rel K G H' S vs a
  nn : ∀ {K G H S vs a}, rel K G H S vs a → ∀ b ∈ S, H b ≠ none
  cg : ∀ {K G H S S' vs a}, (∀ b, b ∈ S' ↔ b ∈ S) → rel K G H S vs a → rel K G H S' vs a
  rf : ∀ {K G H S vs a}, rel K G H S vs a → ∃ Ls : List Addr, vs = Ls.map V.ref ∧ ∀ b ∈ Ls, b ∈ S
  len : Nat
  ln : ∀ {K G H S vs a}, rel K G H S vs a → vs.length = len
class DH {α : Type} (d : DRep α) : Prop where
  h : DHd d
instance {α : Type} {q : ORep α} {nt : NT q} : DH (dq q nt) := ⟨fun ⟨L, ho, h1, h2, _⟩ => ⟨L, h1, (h2 L).mpr rfl⟩⟩
instance {β : Type} {d : DRep β} : DH (dD d) := ⟨dh_D⟩
instance {β : Type} {d : DRep β} : DH (dL d) := ⟨dh_L⟩
def dsN : DsRep Unit := ⟨fun K G H S vs a => vs = [] ∧ ∀ b, b ∉ S, fun _ h => h, fun _ h => h, fun h b hb => absurd hb (h.2 b), fun e h => ⟨h.1, fun b hb => h.2 b ((e b).mp hb)⟩, fun h => ⟨[], h.1, fun b hb => (by cases hb)⟩, 0, fun h => by rw [h.1]; rfl⟩
theorem DsRep.hm {α : Type} {D : DsRep α} {K : PySem.W.Frag} {G H H' : Hp} {S : List Addr} {vs : List V} {a : α} (s : Sub H H') (h : D.rel K G H S vs a) : D.rel K G H' S vs a :=
  D.loc (fun b hb => by
    cases z : H b with
    | none => exact absurd z (D.nn h b hb)
    | some o => exact s _ _ z) h
section
variable {ν α β γ ε ρ ι κ : Type} {M : Mx} {R R' : ERep ε} {F : Frm} {G G' H H' : Hp} {σ : Sg} {n : Nat} {own : Frm → Addr → Prop} {K : PySem.W.Frag}
def lnU : Ln ε Unit := ⟨fun _ => some (), fun _ e => e⟩
def lnP (l : Ln ε α) (l' : Ln ε β) : Ln ε (α × β) := ⟨fun e => match l.get e, l'.get e with
  | some a, some b => some (a, b)
  | _, _ => none, fun o e => match o with
  | some p => l.put (some p.1) (l'.put (some p.2) e)
  | none => l'.put none (l.put none e)⟩
structure DqsAt (R : ERep ε) (ns : List Nat) (D : DsRep ι) (l : Ln ε ι) : Prop where
  rd : ∀ {K F G H σ e st}, R.rel K F G H σ e → l.get e = some st → ∃ us S, ns.map (fun n => σ[n]?) = us.map (fun v => some (some v)) ∧ D.rel K G H S us st ∧ OwS ownW F G S ∧ R.rel K F G (hideS H S) σ (l.put none e) ∧
    ∀ {G' H' e' S' st'}, R.rel K F G' (hideS H' S') σ e' → D.rel K G' H' S' us st' → (∀ b ∈ S', G' b = none) → (∀ b ∈ S', ownN F b ∨ b ∈ S) → R.rel K F G' H' σ (l.put (some st') e')
theorem DqsAt.nil : DqsAt R [] dsN lnU := ⟨fun {K F G H σ e st} hR _ => ⟨[], [], rfl, ⟨rfl, fun _ => List.not_mem_nil⟩, fun b hb => absurd hb List.not_mem_nil, by rw [hideS_nil]; exact hR, fun {G' H' e' S' st'} hR' h _ _ => by
  have : hideS H' S' = H' := by funext b; exact hideS_ne (h.2 b)
  rw [this] at hR'
  exact hR'⟩⟩
end
section
variable {ν ν' α β γ ε ρ ι κ : Type} {M : Mx} {R R' : ERep ε} {F : Frm} {G G' H H' : Hp} {σ : Sg} {n : Nat} {own : Frm → Addr → Prop} {rr : RS V ρ} {K : PySem.W.Frag}
/-- what is wanted of something that is reckoned while S stays -/
def PostH (M : Mx) (R : ERep ε) (F : Frm) (G H : Hp) (S : List Addr) (σ : Sg) (r : GR ν α) (Q : ν → Hp → Prop) : Rs ε α → Prop
  | .ok a e1 => ∀ w G1 H1, IV F G1 H1 → Sub G G1 → r.rel M.K G1 w a → R.rel M.K F G1 (hideS H1 S) σ e1 → (∀ b ∈ S, H1 b = H b ∧ G1 b = none) → Q w H1
  | .ex c e1 => ∀ cls d G' H', IV F G' H' → Sub G G' → R.rel M.K F G' H' σ e1 → xr M G' c cls d → M.E cls d H'
  | .bad => False
theorem PostH.bind {S : List Addr} {r : GR ν α} {rs : RS ν' β} {Q : ν → Hp → Prop} {Q' : ν' → Hp → Prop} {x : Rs ε α} {f : α → ε → Rs ε β} (h : Post M R F G σ rs Q' (x.bind f))
    (k : ∀ a e1 w G1 H1, IV F G1 H1 → Sub G G1 → r.rel M.K G1 w a → R.rel M.K F G1 (hideS H1 S) σ e1 → (∀ b ∈ S, H1 b = H b ∧ G1 b = none) → Post M R F G1 σ rs Q' (f a e1) → Q w H1) : PostH M R F G H S σ r Q x := by
  cases x with
  | ok a e => exact fun w G1 H1 i s hr hR hS => k a e w G1 H1 i s hr hR hS (Post.up h s)
  | ex c e => exact h
  | bad => exact h
theorem PostH.so {S : List Addr} {r : GR ν α} {D : Ends} {Q : ν → Hp → Prop} {x : Rs ε α} {f : α → ε → So ε ρ} (h : PostS M R rr F G D (x.so f)) (hD : ∀ c e', x = .ex c e' → False)
    (k : ∀ a e1 w G1 H1, IV F G1 H1 → Sub G G1 → r.rel M.K G1 w a → R.rel M.K F G1 (hideS H1 S) σ e1 → (∀ b ∈ S, H1 b = H b ∧ G1 b = none) → PostS M R rr F G1 D (f a e1) → Q w H1) : PostH M R F G H S σ r Q x := by
  cases x with
  | ok a e => exact fun w G1 H1 i s hr hR hS => k a e w G1 H1 i s hr hR hS (PostS.up h s)
  | ex c e => exact absurd (hD c e rfl) id
  | bad => exact h
def mkF (fns : List Str) (vs : List V) (f : Str) (D : Addr) : List (Str × V) := fns.zip vs ++ [(f, .ref D)]
/-- one's own: the attributes frozen but the last, an object of its own -/
def dObj (C : Addr) (fns : List Str) (ra : GR (List V) α) (f : Str) (q : ORep β) (nt : NT q) : DRep (α × β) :=
  ⟨fun K G H S v a => ∃ x dx D vs ho, v = .ref x ∧ (∀ b, b ∈ S ↔ b = x ∨ b = dx ∨ b = D) ∧ (dx ≠ x ∧ D ≠ x ∧ D ≠ dx) ∧ H x = some (.ins C dx (mkF fns vs f D)) ∧ H dx = some (.own x) ∧ vs.length = fns.length ∧ ra.rel K G vs a.1 ∧ H D = some ho ∧ q.rel K G ho a.2,
   fun s ⟨x, dx, D, vs, ho, h1, h2, h3, h4, h5, h6, h7, h8, h9⟩ => ⟨x, dx, D, vs, ho, h1, h2, h3, h4, h5, h6, ra.mono s h7, h8, q.mono s h9⟩,
   fun e ⟨x, dx, D, vs, ho, h1, h2, h3, h4, h5, h6, h7, h8, h9⟩ => ⟨x, dx, D, vs, ho, h1, h2, h3, by rw [e x ((h2 x).mpr (.inl rfl))]; exact h4, by rw [e dx ((h2 dx).mpr (.inr (.inl rfl)))]; exact h5, h6, h7, by rw [e D ((h2 D).mpr (.inr (.inr rfl)))]; exact h8, h9⟩,
   fun ⟨x, dx, D, vs, ho, h1, h2, h3, h4, h5, h6, h7, h8, h9⟩ b hb => by
     rcases (h2 b).mp hb with rfl | rfl | rfl
     · exact ⟨_, h4, fun xs z => by cases z⟩
     · exact ⟨_, h5, fun xs z => by cases z⟩
     · exact ⟨_, h8, nt _ _ _ _ h9⟩,
   fun e ⟨x, dx, D, vs, ho, h1, h2, h3⟩ => ⟨x, dx, D, vs, ho, h1, fun b => (e b).trans (h2 b), h3⟩⟩
variable {C : Addr} {fns : List Str} {ra : GR (List V) α} {f g : Str} {q : ORep β} {nt : NT q}
theorem dh_ins : DHd (dObj C fns ra f q nt) := fun ⟨x, dx, D, vs, ho, h1, h2, _⟩ => ⟨x, h1, (h2 x).mpr (.inl rfl)⟩
/-- where a frozen attribute stands -/
structure FldAt (fns : List Str) (ra : GR (List V) α) (g : Str) (r : Rep γ) (pr : α → γ) : Prop where
  at_ : ∀ {K G vs a}, ra.rel K G vs a → vs.length = fns.length → ∃ v, (fns.zip vs).lookup g = some v ∧ r.rel K G v (pr a)
theorem FldAt.here {r : Rep γ} {rb : GR (List V) β} : FldAt (g :: fns) (gConsA r rb) g r (fun a => a.1) := ⟨fun ⟨v, ws, h1, h2, h3⟩ _ => ⟨v, by rw [h1]; simp [List.lookup], h2⟩⟩
theorem FldAt.next {r : Rep γ} {r' : Rep κ} {pr : α → γ} {g' : Str} (ne : g ≠ g') (h : FldAt fns ra g r pr) : FldAt (g' :: fns) (gConsA r' ra) g r (fun a => pr a.2) := ⟨fun ⟨v, ws, h1, h2, h3⟩ hl => by
  subst h1
  obtain ⟨u, k1, k2⟩ := h.at_ h3 (by simpa using hl)
  exact ⟨u, by rw [List.zip_cons_cons, List.lookup_cons, beq_false_of_ne ne]; exact k1, k2⟩⟩
/-- what of a class its attributes ask -/
structure IsC (K : PySem.W.Frag) (C : Addr) (gs : List Str) : Prop where
  cl : Cls K C
  na : ∀ g ∈ gs, NoAttr K C g
/-- of a new one, that is dropped -/
def mMethT (m : ε → Rs ε ι) (u : ι → κ → Rs ι ρ) (mm : ε → Rs ε κ) : ε → Rs ε ρ := fun e => (m e).bind fun s e1 => (mm e1).bind fun a e2 => match u s a with
  | .ok b _ => .ok b e2
  | _ => .bad
end
section
variable {ν ν' α β γ ε ρ ι κ δ : Type} {M : Mx} {R R' : ERep ε} {F : Frm} {G G' H H' : Hp} {σ : Sg} {n : Nat} {own : Frm → Addr → Prop} {rr : RS V ρ} {K : PySem.W.Frag}
variable {C : Addr} {fns : List Str} {ra : GR (List V) α} {f g : Str} {q : ORep β} {nt : NT q}
/-- self.f.m(..) -/
def mBMF (l : Ln ε (α × β)) (gg : β → δ → Option (γ × β)) (m : ε → Rs ε δ) : ε → Rs ε γ := fun e => match l.get e with
  | none => .bad
  | some st => (m (l.put none e)).bind fun a e1 => match gg st.2 a with
    | none => .bad
    | some (b, o') => .ok b (l.put (some (st.1, o')) e1)
/-- self.f[i] = y -/
def mSetF (l : Ln ε (α × β)) (gg : β → δ → γ → Option β) (mi : ε → Rs ε δ) (m : ε → Rs ε γ) : ε → So ε ρ := fun e => (m e).so fun y e1 => match l.get e1 with
  | none => .bad
  | some st => match mi (l.put none e1) with
    | .ok x e2 => match gg st.2 x y with
      | none => .bad
      | some o' => .nx (l.put (some (st.1, o')) e2)
    | _ => .bad
/-- the names hold frozen things alone -/
def FrO (R : ERep ε) : Prop := ∀ {K F F' G H H' σ e}, R.rel K F G H σ e → R.rel K F' G H' σ e
theorem FrO.nil : FrO eNil := fun h => h
theorem FrO.fr {r : Rep α} (h : FrO R) : FrO (eFr r R) := fun ⟨o, σ', h1, h2, h3⟩ => ⟨o, σ', h1, h2, h h3⟩
structure MkS (K : PySem.W.Frag) (R : ERep ε) (C : Addr) (F : Frm) (x dx : Addr) (fs : List (Str × V)) (G H : Hp) (σ : Sg) (e : ε) : Prop where
  iv : IV F G H
  wx : x ∈ F.ws ∧ dx ∈ F.ws ∧ dx ≠ x
  fx : ∀ b, F.X b = none ∧ F.Y b = none
  ox : H x = some (.ins C dx fs)
  od : H dx = some (.own x)
  gx : G x = none
  gd : G dx = none
  nr : R.rel K (fr0 G H) G H σ e
  s0 : σ[0]? = some (some (.ref x))
theorem MkS.put {x dx : Addr} {fs : List (Str × V)} {e : ε} (s : MkS K R C F x dx fs G H σ e) (fo : FrO R) {e' : ε} {G1 H1 : Hp} {fs' : List (Str × V)} (j : IV (fr0 G H) G1 H1) (nr : R.rel K (fr0 G H) G1 H1 σ e') : MkS K R C F x dx fs' G1 (upd H1 x (.ins C dx fs')) σ e' := by
  have i1 : IV F G1 H1 := s.iv.after j fun _ z => absurd z List.not_mem_nil
  have hx : H1 x = some (.ins C dx fs) := j.fr x _ List.not_mem_nil s.ox
  have hd : H1 dx = some (.own x) := j.fr dx _ List.not_mem_nil s.od
  have gn : ∀ b, G b = none → H b ≠ none → G1 b = none := fun b h1 h2 => by
    cases z : G1 b with
    | none => rfl
    | some o => exact absurd h1 (j.new b h2 (by rw [z]; intro z; cases z))
  have gx := gn x s.gx (by rw [s.ox]; intro z; cases z)
  exact ⟨i1.put (own := ownW) ownW_q hx gx ⟨.inr s.wx.1, (s.fx x).1, (s.fx x).2⟩ (fun xs z => by cases z), s.wx, s.fx, upd_same, by rw [upd_ne s.wx.2.2]; exact hd, gx, gn dx s.gd (by rw [s.od]; intro z; cases z), fo nr, s.s0⟩
theorem MkS.step {x dx : Addr} {fs : List (Str × V)} {e e' : ε} {E' : XK} {cx : Str → Addr} {te : TE} {r : Rep γ} {m : ε → Rs ε γ} {b : γ} {D : Ends} {gs : List Str} (s : MkS K R C F x dx fs G H σ e) (fo : FrO R) (ic : IsC K C gs) (hg : g ∈ gs) (hl : fs.length < 1000)
    (h : EX ⟨K, E', cx⟩ R te (fz r) m) (hm : m e = .ok b e') (k : ∀ v G1 H1, Sub G G1 → r.rel K G1 v b → MkS K R C F x dx (putF g v fs) G1 H1 σ e' → D.nx σ H1) : sFld K (tVar 0) te g D σ H :=
  h (fr0 G H) G H σ e (.start ⟨s.iv.gh, s.iv.tp⟩) s.nr _ (by
    rw [hm]
    intro v G1 H1 H1' j sg hr nr
    rw [hr.2] at nr
    exact ⟨_, s.s0, x, C, dx, fs, rfl, j.fr x _ List.not_mem_nil s.ox, ic.cl, ic.na g hg, hl, k v G1 _ sg hr.1 (s.put fo j nr)⟩)
end
section
variable {ν ν' α β γ ε ρ ι κ δ : Type} {M : Mx} {R R' : ERep ε} {F : Frm} {G G' H H' : Hp} {σ : Sg} {n : Nat} {own : Frm → Addr → Prop} {rr : RS V ρ} {K : PySem.W.Frag}
variable {C : Addr} {f : Str} {q : ORep β} {nt : NT q}
def Rs.dr (x : Rs ε α) : Rs Unit α := match x with
  | .ok a _ => .ok a () | .ex _ _ => .bad | .bad => .bad
section
variable {e : ε} {Q : α → ε → Prop}
theorem rp_dr {x : Rs ε α} {Q : α → Unit → Prop} : RsP x.dr Q = RsP x fun a _ => Q a () := by
  simp only [RsP_eq]
  cases x <;> rfl
theorem rp_bmF {l : Ln ε (γ × β)} {gg : β → δ → Option (α × β)} {m : ε → Rs ε δ} : RsP (mBMF l gg m e) Q = OpP (l.get e) fun st => RsP (m (l.put none e)) fun a e1 => OpP (gg st.2 a) fun p => Q p.1 (l.put (some (st.1, p.2)) e1) := by
  unfold mBMF
  simp only [RsP_eq, OpP_eq]
  cases l.get e with
  | none => rfl
  | some st =>
    dsimp only
    show RsP0 ((m (l.put none e)).bind _) Q = RsP0 (m (l.put none e)) fun a e1 => OpP0 (gg st.2 a) fun p => Q p.1 (l.put (some (st.1, p.2)) e1)
    cases m (l.put none e) with
    | ok a e1 =>
      rw [Rs.bind_ok]
      show _ = OpP0 (gg st.2 a) fun p => Q p.1 (l.put (some (st.1, p.2)) e1)
      cases gg st.2 a with
      | none => rfl
      | some p => rfl
    | ex c e1 => rfl
    | bad => rfl
theorem sp_setF {l : Ln ε (κ × β)} {gg : β → δ → γ → Option β} {mi : ε → Rs ε δ} {m : ε → Rs ε γ} {N C B : ε → Prop} {T : ρ → ε → Prop} : SoP (mSetF l gg mi m e : So ε ρ) N C B T = RsP (m e) fun y e1 => OpP (l.get e1) fun st => RsP (mi (l.put none e1)) fun x e2 => OpP (gg st.2 x y) fun o' => N (l.put (some (st.1, o')) e2) := by
  unfold mSetF
  simp only [RsP_eq, OpP_eq, SoP_eq]
  cases m e with
  | ex c e1 => rfl
  | bad => rfl
  | ok y e1 =>
    rw [Rs.so_ok]
    show SoP0 _ N C B T = OpP0 (l.get e1) fun st => RsP0 (mi (l.put none e1)) fun x e2 => OpP0 (gg st.2 x y) fun o' => N (l.put (some (st.1, o')) e2)
    cases l.get e1 with
    | none => rfl
    | some st =>
      dsimp only
      show SoP0 _ N C B T = RsP0 (mi (l.put none e1)) fun x e2 => OpP0 (gg st.2 x y) fun o' => N (l.put (some (st.1, o')) e2)
      cases mi (l.put none e1) with
      | ex c e1 => rfl
      | bad => rfl
      | ok x e2 =>
        dsimp only
        show SoP0 _ N C B T = OpP0 (gg st.2 x y) fun o' => N (l.put (some (st.1, o')) e2)
        cases gg st.2 x y with
        | none => rfl
        | some o => rfl
theorem rp_methT {ms : ε → Rs ε ι} {u : ι → κ → Rs ι α} {mm : ε → Rs ε κ} : RsP (mMethT ms u mm e) Q = RsP (ms e) fun s e1 => RsP (mm e1) fun a e2 => RsP (u s a) fun b _ => Q b e2 := by
  unfold mMethT
  simp only [RsP_eq]
  cases ms e with
  | ex c e1 => rfl
  | bad => rfl
  | ok s e1 =>
    rw [Rs.bind_ok]
    show RsP0 ((mm e1).bind _) Q = RsP0 (mm e1) fun a e2 => RsP0 (u s a) fun b _ => Q b e2
    cases mm e1 with
    | ex c e1 => rfl
    | bad => rfl
    | ok a e2 =>
      rw [Rs.bind_ok]
      show _ = RsP0 (u s a) fun b _ => Q b e2
      cases u s a <;> rfl
end
end
def gMulS0 (a : Str) (n : Int) : Option Str := if (0 ≤ n ∧ n ≤ 1000) ∧ 1 ≤ a.length ∧ a.length ≤ 1000 then some (repS a n.toNat) else none
instance {α β : Type} {C : Addr} {fns : List Str} {ra : GR (List V) α} {f : Str} {q : ORep β} {nt : NT q} : DH (dObj C fns ra f q nt) := ⟨dh_ins⟩
section
variable {ν ν' α β γ ε ρ ι κ δ : Type} {M : Mx} {R R' : ERep ε} {F : Frm} {G G' H H' : Hp} {σ : Sg} {n : Nat} {own : Frm → Addr → Prop} {rr : RS V ρ} {K : PySem.W.Frag} {ns : List Nat}
/-- some names' values stay -/
def Kps (ns : List Nat) (F : Frm) (σ : Sg) : Prop := ∃ Ls : List Addr, ns.map (fun n => σ[n]?) = Ls.map (fun L => some (some (V.ref L))) ∧ F.ws.take ns.length = Ls
def eHs (ns : List Nat) (R : ERep ε) : ERep ε := ⟨fun K F G H σ e => R.rel K F G H σ e ∧ Kps ns F σ, fun g h n ⟨a, b⟩ => ⟨R.mono g h n a, b⟩, fun ⟨a, b⟩ => ⟨R.lock a, b⟩, fun ⟨a, b⟩ => ⟨R.unlock a, b⟩⟩
theorem Kps.set {x : Option V} (h : n ∉ ns) : Kps ns F (σ.set n x) = Kps ns F σ := by
  have : ns.map (fun n' => (σ.set n x)[n']?) = ns.map (fun n' => σ[n']?) := List.map_congr_left fun m hm => by
    rw [List.getElem?_set_ne (fun e => h (by rw [e]; exact hm))]
  unfold Kps
  rw [this]
theorem FrAt.hs {r : Rep α} {l : Ln ε α} (h : FrAt R n r l) (hn : n ∉ ns) : FrAt (eHs ns R) n r l :=
  ⟨fun ⟨a, _⟩ x => h.rd a x, fun ⟨a, b⟩ x => ⟨h.wr a x, by rw [Kps.set hn]; exact b⟩, fun ⟨a, b⟩ => ⟨h.kl a, b⟩, fun ⟨a, b⟩ => ⟨h.wn a, by rw [Kps.set hn]; exact b⟩, fun ⟨a, b⟩ s ⟨c, d⟩ => ⟨h.rs a s c, by rw [Kps.set hn] at d; exact d⟩⟩
theorem OwAt.hs {q : ORep α} {l : Ln ε α} (h : OwAt R n own q l) (hn : n ∉ ns) : OwAt (eHs ns R) n own q l :=
  ⟨fun ⟨a, b⟩ x => let ⟨L, ho, c1, c2, c3, c4, c5, c6⟩ := h.rd a x; ⟨L, ho, c1, c2, c3, c4, c5, c6, b⟩, fun ⟨a, b⟩ c1 c2 c3 c4 c5 => ⟨h.bk a c1 c2 c3 c4 c5, b⟩, fun ⟨a, b⟩ c1 c2 c3 c4 => ⟨h.wr a c1 c2 c3 c4, by rw [Kps.set hn]; exact b⟩, fun ⟨a, b⟩ => ⟨h.kl a, b⟩⟩
theorem BoAt.hs {q : ORep α} {l : Ln ε α} (h : BoAt R n q l) : BoAt (eHs ns R) n q l := ⟨fun ⟨a, _⟩ x => h.rd a x⟩
theorem DpAt.hs {d : DRep α} {l : Ln ε α} (h : DpAt R n own d l) (hn : n ∉ ns) : DpAt (eHs ns R) n own d l :=
  ⟨fun ⟨a, b⟩ x => let ⟨v, S, c1, c2, c3, c4⟩ := h.rd a x; ⟨v, S, c1, c2, c3, c4, b⟩, fun ⟨a, b⟩ c1 c2 c3 => ⟨h.bk a c1 c2 c3, b⟩, fun ⟨a, b⟩ c1 c2 => ⟨h.wr a c1 c2, by rw [Kps.set hn]; exact b⟩, fun ⟨a, b⟩ => ⟨h.kl a, b⟩⟩
theorem VwR.hs (h : VwR R R') : VwR (eHs ns R) R' := ⟨fun i s ⟨a, _⟩ => h.to i s a⟩
section
variable {l : Ln ε α} {l' : Ln ε β} {e : ε}
theorem op_lnP {Q : α × β → Prop} : OpP ((lnP l l').get e) Q = OpP (l.get e) fun a => OpP (l'.get e) fun b => Q (a, b) := by
  simp only [OpP_eq]
  show OpP0 (match l.get e, l'.get e with | some a, some b => some (a, b) | _, _ => none) Q = _
  cases l.get e with
  | none => rfl
  | some a => cases l'.get e <;> rfl
theorem ln_putS {p : α × β} : (lnP l l').put (some p) e = l.put (some p.1) (l'.put (some p.2) e) := rfl
theorem ln_putN : (lnP l l').put none e = l'.put none (l.put none e) := rfl
theorem op_lnU {Q : Unit → Prop} : OpP ((lnU : Ln ε Unit).get e) Q = Q () := op_some
theorem ln_putU {o : Option Unit} : (lnU : Ln ε Unit).put o e = e := rfl
end
end
section
variable {ν ν' α β γ ε ρ ι κ δ : Type} {M : Mx} {R R' : ERep ε} {F : Frm} {G G' H H' : Hp} {σ : Sg} {n : Nat} {own : Frm → Addr → Prop} {rr : RS V ρ} {K : PySem.W.Frag} {ns : List Nat}
theorem Kps.at {j : Nat} {L : Addr} (k : Kps ns F σ) (hj : ns[j]? = some n) (hL : F.ws[j]? = some L) : σ[n]? = some (some (.ref L)) := by
  obtain ⟨Ls, h1, h2⟩ := k
  have e : (ns.map (fun n => σ[n]?))[j]? = (Ls.map fun L => some (some (V.ref L)))[j]? := by rw [h1]
  rw [List.getElem?_map, List.getElem?_map, hj] at e
  have hl : j < ns.length := (List.getElem?_eq_some_iff.mp hj).1
  rw [← h2, List.getElem?_take_of_lt hl, hL] at e
  exact Option.some.inj e
end
section
variable {ν ν' α β γ ε ρ ι κ δ : Type} {M : Mx} {R R' : ERep ε} {F : Frm} {G G' H H' : Hp} {σ : Sg} {n : Nat} {own : Frm → Addr → Prop} {rr : RS V ρ} {K : PySem.W.Frag}
def mExtD (l : Ln ε (List α)) (m : ε → Rs ε (List α)) : ε → Rs ε Unit := fun e => match l.get e with
  | none => .bad
  | some _ => (m e).bind fun a e1 => match l.get e1 with
    | none => .bad
    | some xs => if xs.length + a.length ≤ 1000000 then .ok () (l.put (some (xs ++ a)) (l.put none e1)) else .bad
/-- for x in xs: x.append(c) -/
def mEach (l : Ln ε (List (List α))) (l' : Ln ε Unit) (a : α) : ε → So ε ρ := fun e => match l.get e with
  | none => .bad
  | some xs => if ∀ x ∈ xs, x.length < 1000000 then .nx (l.put (some (xs.map (· ++ [a]))) (l'.put none (l.put none e))) else .bad
section
variable {N C B : ε → Prop} {T : ρ → ε → Prop} {e : ε}
theorem rp_extD {l : Ln ε (List α)} {m : ε → Rs ε (List α)} {Q : Unit → ε → Prop} : RsP (mExtD l m e) Q = OpP (l.get e) fun _ => RsP (m e) fun a e1 => OpP (l.get e1) fun xs => xs.length + a.length ≤ 1000000 ∧ Q () (l.put (some (xs ++ a)) (l.put none e1)) := by
  unfold mExtD
  simp only [RsP_eq, OpP_eq]
  cases l.get e with
  | none => rfl
  | some _ =>
    cases m e with
    | ok a e1 =>
      simp only [Rs.bind_ok]
      show RsP0 (match l.get e1 with | none => _ | some xs => _) _ = OpP0 (l.get e1) _
      cases l.get e1 with
      | none => rfl
      | some xs =>
        show RsP0 (if xs.length + a.length ≤ 1000000 then _ else _) _ = (_ ∧ _)
        by_cases h : xs.length + a.length ≤ 1000000
        · rw [if_pos h]
          exact propext ⟨fun z => ⟨h, z⟩, fun z => z.2⟩
        · rw [if_neg h]
          exact propext ⟨False.elim, fun z => h z.1⟩
    | ex c e1 => rfl
    | bad => rfl
theorem sp_each {l : Ln ε (List (List α))} {l' : Ln ε Unit} {a : α} : SoP (mEach l l' a e) N C B T = OpP (l.get e) fun xs => (∀ x ∈ xs, x.length < 1000000) ∧ N (l.put (some (xs.map (· ++ [a]))) (l'.put none (l.put none e))) := by
  unfold mEach
  simp only [SoP_eq, OpP_eq]
  cases l.get e with
  | none => rfl
  | some xs =>
    by_cases h : ∀ x ∈ xs, x.length < 1000000
    · simp only [if_pos h, SoP0, OpP0]
      exact propext ⟨fun z => ⟨h, z⟩, fun z => z.2⟩
    · simp only [if_neg h, SoP0, OpP0]
      exact propext ⟨False.elim, fun z => h z.1⟩
end
end
section
variable (n : Nat) (fit : List Int → Int → Bool) (okp : Nat → Int → Bool)
/-- the pieces that may come -/
def cands (laid : List Int) : List Int := (rng 0 n).filter fun k => decide (k ∉ laid) && fit laid k
/-- what goes on from laid ones, so many more -/
def ext : Nat → List Int → List (List Int)
  | 0, laid => [laid]
  | m + 1, laid => (cands n fit laid).flatMap fun k => ext m (laid ++ [k])
variable {n fit okp}
end
section
variable {ε ε' α β γ ρ ι κ : Type}
def RyP (X : Xc → ε → Prop) (x : Rs ε α) (Q : α → ε → Prop) : Prop := match x with
  | .ok a e => Q a e | .ex c e => X c e | .bad => False
def SyP (X : Xc → ε → Prop) (x : So ε ρ) (N C B : ε → Prop) (T : ρ → ε → Prop) : Prop := match x with
  | .nx e => N e | .ct e => C e | .bk e => B e | .rt a e => T a e | .ex c e => X c e | .bad => False
variable {X : Xc → ε → Prop} {N C B : ε → Prop} {T : ρ → ε → Prop} {e : ε}
theorem RyP.of {x : Rs ε α} {Q : α → ε → Prop} (h : RsP x Q) : RyP X x Q := by cases h with | mk h => exact h
theorem RyP.imp {X' : Xc → ε → Prop} {x : Rs ε α} {P Q : α → ε → Prop} (h : RyP X x P) (k : ∀ a e, P a e → Q a e) (kx : ∀ c e, X c e → X' c e) : RyP X' x Q := by
  cases x with
  | ok a e => exact k a e h
  | ex c e => exact kx c e h
  | bad => exact h
theorem SyP.of {x : So ε ρ} (h : SoP x N C B T) : SyP X x N C B T := by cases h <;> assumption
theorem RyP.rs {x : Rs ε α} {Q : α → ε → Prop} (h : RyP (fun _ _ => False) x Q) : RsP x Q := by
  cases x with
  | ok a e => exact .mk h
  | ex c e => exact h.elim
  | bad => exact h.elim
end
def gRepT0 {α : Type} (xs : List α) (k : Int) : Option (List α) := if xs ≠ [] ∧ 0 ≤ k ∧ k ≤ 1000 ∧ xs.length ≤ 1000 then some (List.replicate k.toNat xs).flatten else none
/-- a mask from whose slots each other one is come to -/
structure MB (m : Nat) : Prop where
  all : ∀ j, j ≤ m → ∃ b, b ≤ m ∧ lcgN m b = j
  rnd : lcgN m (m + 1) = 0
  odd : m % 2 = 1
  lo : 7 ≤ m
  hi : m ≤ 511
section
variable {m : Nat}
theorem MB.mod (h : MB m) : ∀ k, lcgN m (m + 1 + k) = lcgN m k
  | 0 => h.rnd
  | k + 1 => congrArg (fun x => (x * 5 + 1) % (m + 1)) (h.mod k)
theorem MB.from_ (h : MB m) {i j : Nat} (hi : i ≤ m) (hj : j ≤ m) : ∃ k, k ≤ m ∧ lcgI m i k = j := by
  obtain ⟨a, ha, rfl⟩ := h.all i hi
  obtain ⟨b, hb, rfl⟩ := h.all j hj
  by_cases c : a ≤ b
  · exact ⟨b - a, by omega, by rw [lcgN_add]; congr 1; omega⟩
  · refine ⟨b + (m + 1) - a, by omega, ?_⟩
    rw [lcgN_add, ← h.mod b]
    congr 1
    omega
theorem MB.run (hm : MB m) (h : Int) {j : Nat} (hj : j ≤ m) : ∃ n, n ≤ m + 12 ∧ runI m (SetTable.bits h) n = j := by
  obtain ⟨k, hk, e⟩ := hm.from_ (runI_le m (SetTable.bits h) 12) hj
  exact ⟨12 + k, by omega, (runI_tail (bits_lt h) k).trans e⟩
theorem MB.meets (hm : MB m) (h : Int) {j : Nat} (hj : j ≤ m) : ∃ k, k < 10 * SetTable.turns m ∧ way m h k = j := by
  obtain ⟨n, hn, e⟩ := hm.run h hj
  obtain ⟨k, hk, e2⟩ := run_nth m (SetTable.bits h) n
  have h3 : k < 10 * SetTable.turns m := by
    unfold SetTable.turns
    omega
  exact ⟨k, h3, (congrArg SetTable.Probe.j e2).trans e⟩
theorem wayB_le (m : Nat) (h : Int) (k : Nat) : way m h k ≤ m := by
  have hi : SetTable.bits h % (m + 1) ≤ m := Nat.le_of_lt_succ (Nat.mod_lt _ (Nat.succ_pos _))
  have r := runEnd_bd hi
  have q := nth_in (m := m) k (runAt m (SetTable.bits h % (m + 1)) (SetTable.bits h)) (show SetTable.bits h % (m + 1) + (SetTable.runEnd m (SetTable.bits h % (m + 1)) - SetTable.bits h % (m + 1)) ≤ m by omega)
  exact Nat.le_trans (Nat.le_add_right _ _) q
end
/-- a table in which each hash is found on its way -/
structure TabB (t : SetTable) (hs : List Int) : Prop where
  ris : Ris t.place.toList
  dm : t.dummies = #[]
  sz : t.place.size = hs.length
  mb : MB t.mask
  bd : ∀ x ∈ t.place.toList, x ≤ t.mask
  reach : ∀ (i : Nat) (h : Int) (j : Nat), hs[i]? = some h → t.place.toList[i]? = some j → ∃ k, way t.mask h k = j ∧ ∀ k', k' < k → way t.mask h k' ∈ t.place.toList
section
variable {t : SetTable} {hs : List Int}
theorem TabB.first (T : TabB t hs) (hl : hs.length ≤ t.mask) (h : Int) : ∃ K, K < 10 * SetTable.turns t.mask ∧ way t.mask h K ∉ t.place.toList ∧ ∀ k, k < K → way t.mask h k ∈ t.place.toList := by
  obtain ⟨j, hj, hn⟩ := st_missing t.place.toList (t.mask + 1) (by rw [Array.length_toList, T.sz]; omega)
  obtain ⟨k, hk, rfl⟩ := T.mb.meets h (Nat.le_of_lt_succ hj)
  obtain ⟨K, h1, h2, h3⟩ := st_least (p := fun k => way t.mask h k ∉ t.place.toList) k hn
  exact ⟨K, Nat.lt_of_le_of_lt h1 hk, h2, fun k' hk' => Decidable.byContradiction fun c => h3 k' hk' c⟩
/-- what stands behind one is put in -/
structure PutB (t : SetTable) (hs : List Int) (h : Int) (K : Nat) (t1 : SetTable) (p : Nat) : Prop where
  pl : p ≤ hs.length
  tab : TabB t1 (hs.take p ++ h :: hs.drop p)
  msk : t1.mask = t.mask
  led : t1.led = t.led
  plain : t1.plain = t.plain
  fill : t1.fill = hs.length + 1
theorem TabB.put (T : TabB t hs) {h : Int} {K : Nat} (hK : way t.mask h K ∉ t.place.toList) (hb : ∀ k, k < K → way t.mask h k ∈ t.place.toList) : PutB t hs h K (t.put (way t.mask h K)).1 (t.put (way t.mask h K)).2 := by
  have hjm := wayB_le t.mask h K
  generalize hj : way t.mask h K = j at hK hjm
  have c1 := (below_cut T.ris j).1
  have e2 : (t.put j).2 = SetTable.below t.place j := rfl
  have hpl : SetTable.below t.place j ≤ t.place.toList.length := by rw [Array.length_toList]; exact c1
  have hph : SetTable.below t.place j ≤ hs.length := T.sz ▸ c1
  have hpp := put_place t j
  have up : ∀ {x : Nat}, x ∈ t.place.toList → x ∈ (t.put j).1.place.toList := fun hx => hpp ▸ mem_ins.2 (.inr hx)
  have hsize : (t.put j).1.place.size = hs.length + 1 := by
    have q := congrArg List.length hpp
    rw [len_ins _ hpl, Array.length_toList, Array.length_toList, T.sz] at q
    exact q
  have hdm := put_dm T.dm j
  rw [e2]
  refine ⟨hph, ⟨ris_insert T.ris fun e => hK ?_, hdm, by rw [len_ins _ hph]; exact hsize, T.mb, ?_, ?_⟩, rfl, rfl, rfl, ?_⟩
  · exact List.mem_of_getElem? ((Array.getElem?_toList ..).trans e)
  · intro x hx
    rw [hpp] at hx
    rcases mem_ins.1 hx with rfl | z
    · exact hjm
    · exact T.bd x z
  · intro i h' j' h1 h2
    rw [tins_get hs hph] at h1
    rw [hpp, tins_get _ hpl] at h2
    have old : ∀ i, hs[i]? = some h' → t.place.toList[i]? = some j' → ∃ k, way t.mask h' k = j' ∧ ∀ k', k' < k → way t.mask h' k' ∈ (t.put j).1.place.toList := fun i a b => by
      obtain ⟨k, e, z⟩ := T.reach i h' j' a b
      exact ⟨k, e, fun k' hk' => up (z k' hk')⟩
    rcases Nat.lt_trichotomy i (SetTable.below t.place j) with c | c | c
    · rw [if_pos c] at h1 h2
      exact old i h1 h2
    · rw [if_neg (by omega), if_pos c] at h1 h2
      cases h1
      cases h2
      exact ⟨K, hj, fun k' hk' => up (hb k' hk')⟩
    · rw [if_neg (by omega), if_neg (by omega)] at h1 h2
      exact old (i - 1) h1 h2
  · show (t.put j).1.place.size + (t.put j).1.dummies.size = _
    rw [hsize, hdm]
    rfl
end
/-- a set of tuples: all of it -/
structure SetB (P : Program) (w : World) (h : Heap) (a : Addr) (L : List (Addr × List Int)) (es : Array (Int × Value)) (ep : Nat) (t : SetTable) : Prop where
  ob : ∃ o, h.get? a = some o ∧ o.ExactSet ∧ o.data = .set es ep t
  rows : es.toList = rowsOf P w L
  tab : TabB t (L.map fun p => thash P w p.2)
  nd : (L.map (·.2)).Nodup
  tup : ∀ p ∈ L, IsT P w h p.2 p.1
  plain : t.plain = true
  led : w.params.followText "set-order" = true ∨ t.led = true
  room : L.length * 5 < t.mask * 3
  kind : t.mask = 7 ∨ t.mask = 31 ∨ t.mask = 127 ∨ t.mask = 511
section
variable {P : Program} {w : World} {A : Around} {E : Value → Shared → Prop} {s : Shared} {a : Addr} {L : List (Addr × List Int)} {es : Array (Int × Value)} {ep : Nat} {t : SetTable}
theorem rows_size (h : es.toList = rowsOf P w L) : es.size = L.length := by
  rw [← Array.length_toList, h, rowsOf, List.length_map]
theorem SetB.size (R : SetB P w s.heap a L es ep t) : es.size = L.length := rows_size R.rows
theorem SetB.psz (R : SetB P w s.heap a L es ep t) : t.place.size = L.length := R.tab.sz.trans (List.length_map ..)
theorem SetB.at_ (R : SetB P w s.heap a L es ep t) {i : Nat} {j : Nat} (h : t.place.toList[i]? = some j) : ∃ p, L[i]? = some p := by
  have h1 := (List.getElem?_eq_some_iff.mp h).1
  rw [Array.length_toList, R.psz] at h1
  exact ⟨L[i], List.getElem?_eq_getElem h1⟩
theorem SetB.keep {h h' : Heap} {a : Addr} (R : SetB P w h a L es ep t) (ha : ∀ o, h.get? a = some o → h'.get? a = some o) (ht : ∀ p ∈ L, IsT P w h' p.2 p.1) : SetB P w h' a L es ep t :=
  { R with ob := let ⟨o, ho, r⟩ := R.ob; ⟨o, ha o ho, r⟩, tup := ht }
end
section
variable {ε α β : Type} {M : Mx} {R : ERep ε}
theorem PrAt.hs {ns : List Nat} {n : Nat} {q : ORep α} {l : Ln ε α} (h : PrAt R n q l) : PrAt (eHs ns R) n q l := ⟨fun ⟨b, _⟩ e => h.rd b e⟩
theorem Sw.hs {ns : List Nat} {n : Nat} {q : ORep α} {l : Ln ε α} {R' : ERep ε} (h : Sw R R' n q l) : Sw (eHs ns R) (eHs ns R') n q l := ⟨fun ⟨a, b⟩ hs hq => ⟨h.to a hs hq, b⟩, fun ⟨a, b⟩ => ⟨h.bk a, b⟩⟩
end
section
variable {ν α β γ ε ρ ι κ : Type} {M : Mx} {R R' : ERep ε} {F : Frm} {G G' H H' : Hp} {σ : Sg} {n : Nat} {own : Frm → Addr → Prop} {K : PySem.W.Frag} {rr : RS V ρ}
/-- a name and a new object, both changed, the second dropped -/
def mCallMT (l : Ln ε ι) (f : ι × β × Unit → α → Rs (ι × β × Unit) ρ) (ml : ε → Rs ε β) (m : ε → Rs ε α) : ε → Rs ε ρ := fun e => match l.get e with
  | none => .bad
  | some _ => (ml e).bind fun g e1 => (m e1).bind fun a e2 => match l.get e2 with
    | none => .bad
    | some st => match f (st, g, ()) a with
      | .ok b st' => .ok b (l.put (some st'.1) (l.put none e2))
      | _ => .bad
end
section
variable {α β ε ρ ι κ : Type}
theorem rp_callMT {l : Ln ε ι} {f : ι × β × Unit → α → Rs (ι × β × Unit) ρ} {ml : ε → Rs ε β} {m : ε → Rs ε α} {e : ε} {Q : ρ → ε → Prop} : RsP (mCallMT l f ml m e) Q = OpP (l.get e) fun _ => RsP (ml e) fun g e1 => RsP (m e1) fun a e2 => OpP (l.get e2) fun st => RsP (f (st, g, ()) a) fun b st' => Q b (l.put (some st'.1) (l.put none e2)) := by
  unfold mCallMT
  simp only [RsP_eq, OpP_eq]
  cases l.get e with
  | none => rfl
  | some st0 =>
    show RsP0 ((ml e).bind _) Q = RsP0 (ml e) _
    cases ml e with
    | ex c e1 => rfl
    | bad => rfl
    | ok g e1 =>
      rw [Rs.bind_ok]
      show RsP0 ((m e1).bind _) Q = RsP0 (m e1) _
      cases m e1 with
      | ex c e2 => rfl
      | bad => rfl
      | ok a e2 =>
        rw [Rs.bind_ok]
        show _ = OpP0 (l.get e2) _
        cases l.get e2 with
        | none => rfl
        | some st =>
          dsimp only [OpP0]
          cases f (st, g, ()) a <;> rfl
end
section
variable {ν α β γ ε ρ ι κ : Type} {M : Mx} {R R' : ERep ε} {F : Frm} {G G' H H' : Hp} {σ : Sg} {n : Nat} {K : PySem.W.Frag}
def foldWK (x : (List Int × List Int) ⊕ (List Int × List Int)) : Option (List Int × List Int) := some (match x with | .inl a => a | .inr b => b)
def asT3 (t : Th) : Option (Th × Th × Th) := (asT t).bind fun xs => match xs with
  | [x, y, z] => some (x, y, z)
  | _ => none
end
/-- how a name's value is held -/
structure HoldR (α : Type) where
  rel : PySem.W.Frag → Frm → Hp → V → α → Prop
  mono : ∀ {K F G G' v a}, Sub G G' → rel K F G v a → rel K F G' v a
  lk : ∀ {K F G v a D o}, rel K F G v a → rel K (F.lock D o) G v a
  ul : ∀ {K F G v a D o}, rel K (F.lock D o) G v a → rel K F G v a
/-- held by what was frozen as the scope began -/
def hP {α : Type} (r : Rep α) : HoldR α := ⟨fun K F _ v a => r.rel K F.G0 v a, fun _ h => h, fun h => h, fun h => h⟩
/-- its lists are new in the scope -/
def NewL (F : Frm) (Gx : Hp) : Prop := ∀ b vs, Gx b = some (.lst vs) → F.H0 b = none
def hN {α : Type} (r : Rep α) : HoldR α := ⟨fun K F G v a => ∃ Gx, Sub Gx G ∧ NewL F Gx ∧ r.rel K Gx v a, fun s ⟨Gx, h1, h2, h3⟩ => ⟨Gx, h1.trans s, h2, h3⟩, fun h => h, fun h => h⟩
section
variable {α β ε ρ ν : Type} {R : ERep ε} {n : Nat} {r : Rep α} {q : ORep α} {own own' : Frm → Addr → Prop} [op : OwnP own] [op' : OwnP own'] {l : Ln ε α} {r' : Rep β} {q' : ORep β} {h : HoldR α} {h' : HoldR β} {M : Mx}
def eH (h : HoldR α) (R : ERep ε) : ERep (Option α × ε) :=
  ⟨fun K F G H σ e => ∃ o σ', σ = o :: σ' ∧ (∀ x, e.1 = some x → ∃ v, o = some v ∧ h.rel K F G v x) ∧ R.rel K F G H σ' e.2, fun g hh n ⟨o, σ', h1, h2, h3⟩ =>
    ⟨o, σ', h1, fun x hx => let ⟨v, a, b⟩ := h2 x hx; ⟨v, a, h.mono g b⟩, R.mono g hh n h3⟩,
   fun ⟨o, σ', h1, h2, h3⟩ => ⟨o, σ', h1, fun x hx => let ⟨v, a, b⟩ := h2 x hx; ⟨v, a, h.lk b⟩, R.lock h3⟩, fun ⟨o, σ', h1, h2, h3⟩ => ⟨o, σ', h1, fun x hx => let ⟨v, a, b⟩ := h2 x hx; ⟨v, a, h.ul b⟩, R.unlock h3⟩⟩
structure HdAt (R : ERep ε) (n : Nat) (h : HoldR α) (l : Ln ε α) : Prop where
  rd : ∀ {K F G H σ e a}, R.rel K F G H σ e → l.get e = some a → ∃ v, σ[n]? = some (some v) ∧ h.rel K F G v a
  wr : ∀ {K F G H σ e a v}, R.rel K F G H σ e → h.rel K F G v a → R.rel K F G H (σ.set n (some v)) (l.put (some a) e)
  kl : ∀ {K F G H σ e}, R.rel K F G H σ e → R.rel K F G H σ (l.put none e)
theorem HdAt.z : HdAt (eH h R) 0 h Ln.z := by
  refine ⟨?_, ?_, ?_⟩
  · rintro K F G H σ e a ⟨o, σ', rfl, h2, h3⟩ hh
    obtain ⟨v, rfl, hv⟩ := h2 a hh
    exact ⟨v, rfl, hv⟩
  · rintro K F G H σ e a v ⟨o, σ', rfl, h2, h3⟩ hh
    exact ⟨some v, σ', rfl, fun x hx => ⟨v, rfl, by cases hx; exact hh⟩, h3⟩
  · rintro K F G H σ e ⟨o, σ', rfl, h2, h3⟩
    exact ⟨o, σ', rfl, fun x hx => (nomatch hx), h3⟩
theorem HdAt.sF (a : HdAt R n h l) : HdAt (eFr r' R) (n + 1) h (Ln.s l) := by
  refine ⟨?_, ?_, ?_⟩
  · rintro K F G H σ e b ⟨o, σ', rfl, h2, h3⟩ hh
    exact a.rd h3 hh
  · rintro K F G H σ e b v ⟨o, σ', rfl, h2, h3⟩ hh
    exact ⟨o, _, rfl, h2, a.wr h3 hh⟩
  · rintro K F G H σ e ⟨o, σ', rfl, h2, h3⟩
    exact ⟨o, _, rfl, h2, a.kl h3⟩
theorem HdAt.sH (a : HdAt R n h l) : HdAt (eH h' R) (n + 1) h (Ln.s l) := by
  refine ⟨?_, ?_, ?_⟩
  · rintro K F G H σ e b ⟨o, σ', rfl, h2, h3⟩ hh
    exact a.rd h3 hh
  · rintro K F G H σ e b v ⟨o, σ', rfl, h2, h3⟩ hh
    exact ⟨o, _, rfl, h2, a.wr h3 hh⟩
  · rintro K F G H σ e ⟨o, σ', rfl, h2, h3⟩
    exact ⟨o, _, rfl, h2, a.kl h3⟩
theorem HdAt.sO (a : HdAt R n h l) : HdAt (eOwP own q' R) (n + 1) h (Ln.s l) := by
  refine ⟨?_, ?_, ?_⟩
  · rintro K F G H σ e x ⟨o, σ', rfl, ⟨h1, h2⟩ | ⟨x', L, ho, a1, a2, a3, a4, a5, a6, a7⟩⟩ hh
    · exact a.rd h2 hh
    · exact a.rd a7 hh
  · rintro K F G H σ e x v ⟨o, σ', rfl, ⟨h1, h2⟩ | ⟨x', L, ho, a1, a2, a3, a4, a5, a6, a7⟩⟩ hh
    · exact ⟨o, _, rfl, .inl ⟨h1, a.wr h2 hh⟩⟩
    · exact ⟨o, _, rfl, .inr ⟨x', L, ho, a1, a2, a3, a4, a5, a6, a.wr a7 hh⟩⟩
  · rintro K F G H σ e ⟨o, σ', rfl, ⟨h1, h2⟩ | ⟨x', L, ho, a1, a2, a3, a4, a5, a6, a7⟩⟩
    · exact ⟨o, _, rfl, .inl ⟨h1, a.kl h2⟩⟩
    · exact ⟨o, _, rfl, .inr ⟨x', L, ho, a1, a2, a3, a4, a5, a6, a.kl a7⟩⟩
theorem FrAt.sH (a : FrAt R n r l) : FrAt (eH h' R) (n + 1) r (Ln.s l) := by
  refine ⟨?_, ?_, ?_, ?_, ?_⟩
  · rintro K F G H σ e a' ⟨o, σ', rfl, h2, h3⟩ hh
    exact a.rd h3 hh
  · rintro K F G H σ e a' v ⟨o, σ', rfl, h2, h3⟩ hh
    exact ⟨o, _, rfl, h2, a.wr h3 hh⟩
  · rintro K F G H σ e ⟨o, σ', rfl, h2, h3⟩
    exact ⟨o, _, rfl, h2, a.kl h3⟩
  · rintro K F G H σ e ⟨o, σ', rfl, h2, h3⟩
    exact ⟨o, _, rfl, h2, a.wn h3⟩
  · rintro K F G H G' H' σ e e' ⟨o, σ', rfl, h2, h3⟩ s ⟨o', σ'', h4, h5, h6⟩
    obtain ⟨rfl, rfl⟩ := List.cons.inj h4
    exact ⟨_, _, rfl, h5, a.rs h3 s h6⟩
/-- the names within a scope: what was frozen as it began, stood then -/
def eS (R : ERep ε) : ERep ε := ⟨fun K F G H σ e => Sub F.G0 F.H0 ∧ R.rel K F G H σ e, fun g h n ⟨t, r⟩ => ⟨t, R.mono g h n r⟩, fun ⟨t, r⟩ => ⟨t, R.lock r⟩, fun ⟨t, r⟩ => ⟨t, R.unlock r⟩⟩
theorem HdAt.sS (a : HdAt R n h l) : HdAt (eS R) n h l := ⟨fun ⟨_, b⟩ e => a.rd b e, fun ⟨t, b⟩ e => ⟨t, a.wr b e⟩, fun ⟨t, b⟩ => ⟨t, a.kl b⟩⟩
theorem Kl.hd {h : HoldR α} (a : HdAt R n h l) : Kl R (l.put none) := ⟨a.kl⟩
theorem x_varP {r : Rep α} (at' : HdAt R n (hP r) l) : EX M R (tVar n) (fz r) (mVar l) := fun F G H σ e i hR Q p => by
  obtain ⟨b, hb, p2⟩ := of_some p
  obtain ⟨v, h1, h2⟩ := at'.rd hR hb
  exact ⟨v, h1, p2 v G H H i .refl ⟨r.mono i.g0 h2, rfl⟩ hR⟩
def nf (r : Rep α) : RS V α := ⟨fun K F G H v a H1 => (hN r).rel K F G v a ∧ H1 = H⟩
theorem nf_h {r : Rep α} : ∀ K F G H v a H1, (nf r).rel K F G H v a H1 → H1 = H := fun _ _ _ _ _ _ _ h => h.2
theorem x_varN {r : Rep α} (at' : HdAt R n (hN r) l) : EX M R (tVar n) (nf r) (mVar l) := fun F G H σ e i hR Q p => by
  obtain ⟨b, hb, p2⟩ := of_some p
  obtain ⟨v, h1, h2⟩ := at'.rd hR hb
  exact ⟨v, h1, p2 v G H H i .refl ⟨h2, rfl⟩ hR⟩
theorem x_nf {t : TE} {r : Rep α} {m : ε → Rs ε α} (h : EX M R t (nf r) m) : EX M R t (fz r) m := fun F G H σ e i hR Q p => by
  refine h F G H σ e i hR Q ?_
  revert p
  cases m e with
  | ok a e' => exact fun p v G' H' H1 i1 s1 ⟨⟨Gx, z1, z2, z3⟩, z4⟩ R1 => p v G' H' H1 i1 s1 ⟨r.mono z1 z3, z4⟩ R1
  | ex c e' => exact id
  | bad => exact id
/-- without the lists -/
def noL (G : Hp) : Hp := fun b => match G b with | some (.lst _) => none | x => x
theorem noL_kept {G : Hp} : Kept G (noL G) := fun b o e hn => by
  show (match G b with | some (.lst _) => none | x => x) = some o
  rw [e]
  cases o <;> first | rfl | exact absurd rfl (hn _)
theorem noL_some {G : Hp} {b : Addr} {o : HO} (e : noL G b = some o) : G b = some o ∧ NonL o := by
  have e : (match G b with | some (.lst _) => none | x => x) = some o := e
  cases hb : G b with
  | none => rw [hb] at e; cases e
  | some u =>
    rw [hb] at e
    cases u <;> first | (cases e; done) | (cases e; exact ⟨rfl, fun vs z => nomatch z⟩)
theorem noL_sub {G : Hp} : Sub (noL G) G := fun b o e => (noL_some e).1
theorem x_nst {t : TE} {r : Rep α} (st : StR r) {m : ε → Rs ε α} (h : EX M R t (fz r) m) : EX M R t (nf r) m := fun F G H σ e i hR Q p => by
  refine h F G H σ e i hR Q ?_
  revert p
  cases m e with
  | ok a e' => exact fun p v G' H' H1 i1 s1 z R1 => p v G' H' H1 i1 s1 ⟨⟨noL G', noL_sub, fun b vs e => absurd rfl ((noL_some e).2 vs), st noL_kept z.1⟩, z.2⟩ R1
  | ex c e' => exact id
  | bad => exact id
theorem s_setN {rr : RS V ρ} {t : TE} {r : Rep α} {m : ε → Rs ε α} (at' : HdAt R n (hN r) l) (h : EX M R t (nf r) m) : SX M R rr (tAsg t (gName n)) (mSet l m) := fun F G H σ e i hR D p =>
  h F G H σ e i hR _ (p.so fun v a e1 G1 H1 H1' i1 s1 hr R1 p1 => p1 _ G1 H1 i1 .refl (at'.wr (hr.2 ▸ R1) hr.1))
/-- what stood or is frozen as a scope begins -/
def scH (F : Frm) (G H : Hp) : Hp := fun b => match F.H0 b with
  | some _ => H b
  | none => match G b with | some _ => H b | none => none
structure ScF (F F' : Frm) (G : Hp) : Prop where
  g0 : F'.G0 = G
  ws : F'.ws = F.ws
  X : F'.X = F.X
  Y : F'.Y = F.Y
  no : ∀ b, F.H0 b = none → G b = none → F'.H0 b = none
  yes : ∀ b, F.H0 b ≠ none → F'.H0 b ≠ none
/-- the names outside, the names within, what is known of them as it begins -/
structure ScP (R R' : ERep ε) (k : ε → ε) : Prop where
  inn : ∀ {K F F' G H σ e}, ScF F F' G → R.rel K F G H σ e → R'.rel K F' G H σ (k e)
  out : ∀ {K F F' G G' H' σ e}, ScF F F' G → Sub G G' → R'.rel K F' G' H' σ e → R.rel K F G' H' σ e
theorem ScP.nil : ScP eNil eNil id := ⟨fun _ h => h, fun _ _ h => h⟩
theorem ScP.fr {R' : ERep ε} {k : ε → ε} (a : ScP R R' k) : ScP (eFr r R) (eFr r R') (fun e => (e.1, k e.2)) :=
  ⟨fun c ⟨o, σ', h1, h2, h3⟩ => ⟨o, σ', h1, h2, a.inn c h3⟩, fun c s ⟨o, σ', h1, h2, h3⟩ => ⟨o, σ', h1, h2, a.out c s h3⟩⟩
theorem ScP.pa {R' : ERep ε} {k : ε → ε} (a : ScP R R' k) : ScP (eFr r R) (eH (hP r) R') (fun e => (e.1, k e.2)) :=
  ⟨fun {K F F' G H σ e} c ⟨o, σ', h1, h2, h3⟩ => ⟨o, σ', h1, fun x hx => let ⟨v, a1, b1⟩ := h2 x hx; ⟨v, a1, show r.rel K F'.G0 v x by rw [c.g0]; exact b1⟩, a.inn c h3⟩,
   fun {K F F' G G' H' σ e} c s ⟨o, σ', h1, h2, h3⟩ => ⟨o, σ', h1, fun x hx => let ⟨v, a1, b1⟩ := h2 x hx; ⟨v, a1, r.mono s (by have b1 : r.rel K F'.G0 v x := b1; rw [c.g0] at b1; exact b1)⟩, a.out c s h3⟩⟩
theorem ScP.nw {R' : ERep ε} {k : ε → ε} (a : ScP R R' k) : ScP (eFr r R) (eH (hN r) R') (fun e => (none, k e.2)) :=
  ⟨fun c ⟨o, σ', h1, h2, h3⟩ => ⟨o, σ', h1, fun x hx => (nomatch hx), a.inn c h3⟩,
   fun c s ⟨o, σ', h1, h2, h3⟩ => ⟨o, σ', h1, fun x hx => let ⟨v, a1, Gx, b1, _, b3⟩ := h2 x hx; ⟨v, a1, r.mono b1 b3⟩, a.out c s h3⟩⟩
/-- how a name owns: what is own outside is own within -/
class OwnS (own : Frm → Addr → Prop) : Prop where
  inn : ∀ {F F' G L}, ScF F F' G → G L = none → own F L → own F' L
  out : ∀ {F F' G L}, ScF F F' G → own F' L → own F L
instance ownN_s : OwnS ownN := ⟨fun c g h => ⟨c.no _ h.1 g, by rw [c.X]; exact h.2.1, by rw [c.Y]; exact h.2.2⟩, fun {F F' G L} c h => ⟨by
  cases z : F.H0 L with
  | none => rfl
  | some o => exact absurd h.1 (c.yes L (by rw [z]; intro z; cases z)), by rw [← c.X]; exact h.2.1, by rw [← c.Y]; exact h.2.2⟩⟩
instance ownI_s {k : Nat} : OwnS (ownI k) := ⟨fun c _ h => ⟨by rw [c.ws]; exact h.1, by rw [c.X]; exact h.2.1, by rw [c.Y]; exact h.2.2⟩, fun c h => ⟨by rw [← c.ws]; exact h.1, by rw [← c.X]; exact h.2.1, by rw [← c.Y]; exact h.2.2⟩⟩
theorem ScP.ow {R' : ERep ε} {k : ε → ε} [os : OwnS own] (a : ScP R R' k) : ScP (eOwP own q R) (eOwP own q R') (fun e => (e.1, k e.2)) := by
  refine ⟨?_, ?_⟩
  · rintro K F F' G H σ e c ⟨o, σ', h1, ⟨z, w⟩ | ⟨x, L, ho, a1, a2, a3, a4, a5, a6, a7⟩⟩
    · exact ⟨o, σ', h1, .inl ⟨z, a.inn c w⟩⟩
    · exact ⟨o, σ', h1, .inr ⟨x, L, ho, a1, a2, a3, a4, os.inn c a4 a5, a6, a.inn c a7⟩⟩
  · rintro K F F' G G' H' σ e c s ⟨o, σ', h1, ⟨z, w⟩ | ⟨x, L, ho, a1, a2, a3, a4, a5, a6, a7⟩⟩
    · exact ⟨o, σ', h1, .inl ⟨z, a.out c s w⟩⟩
    · exact ⟨o, σ', h1, .inr ⟨x, L, ho, a1, a2, a3, a4, os.out c a5, a6, a.out c s a7⟩⟩
def mScope (k : ε → ε) (m : ε → So ε ρ) : ε → So ε ρ := fun e => m (k e)
theorem s_scope {R' : ERep ε} {k : ε → ε} {r' : GR V ρ} {t : TS} {m : ε → So ε ρ} (sc : ScP R R' k) (h : SXW M (eS R') (fz r') t m) : SX M R (fz r') t (mScope k m) := fun F G H σ e i hR D p => by
  let F' : Frm := ⟨G, scH F G H, F.ws, F.X, F.Y⟩
  have hs : ∀ b o, scH F G H b = some o → H b = some o := fun b o e => by
    unfold scH at e
    cases z : F.H0 b with
    | some u => rw [z] at e; exact e
    | none =>
      rw [z] at e
      dsimp only at e
      cases z2 : G b with
      | some u => rw [z2] at e; exact e
      | none => rw [z2] at e; cases e
  have h0 : ∀ b, F.H0 b ≠ none → scH F G H b = H b := fun b hb => by
    unfold scH
    cases z : F.H0 b with
    | some u => rfl
    | none => exact absurd z hb
  have hg : ∀ b, G b ≠ none → scH F G H b = H b := fun b hb => by
    unfold scH
    cases z : F.H0 b with
    | some u => rfl
    | none =>
      dsimp only
      cases z2 : G b with
      | some u => rfl
      | none => exact absurd z2 hb
  have c : ScF F F' G := ⟨rfl, rfl, rfl, rfl, fun b h1 h2 => by
    show scH F G H b = none
    unfold scH
    rw [h1]
    dsimp only
    rw [h2], fun b hb => by
      show scH F G H b ≠ none
      rw [h0 b hb]
      exact i.al b hb⟩
  have sg : Sub G (scH F G H) := fun b o e => by rw [hg b (by rw [e]; intro z; cases z)]; exact i.gh b o e
  have i' : IV F' G H := ⟨i.gh, .refl, fun _ _ h => h, fun b o _ h => hs b o h, fun b h => (by
    obtain ⟨o, ho⟩ : ∃ o, scH F G H b = some o := Option.ne_none_iff_exists'.mp h
    rw [hs b o ho]
    intro z
    cases z), i.xs, i.xg, i.ys, i.yg, i.tp⟩
  have back : ∀ {G' H'}, IV F' G' H' → IV F G' H' := fun {G' H'} j => ⟨j.gh, i.g0.trans j.g0, fun b h1 h2 => i.new b h1 (j.new b (c.yes b h1) h2), fun b o h1 h2 => j.fr b o h1 (by
    show scH F G H b = some o
    rw [h0 b (by rw [h2]; intro z; cases z)]
    exact i.fr b o h1 h2), fun b hb => j.al b (c.yes b hb), j.xs, j.xg, j.ys, j.yg, j.tp⟩
  refine h F' G H σ (k e) i' ⟨sg, sc.inn c hR⟩ D ?_
  unfold mScope at p
  revert p
  cases m (k e) with
  | nx e1 => exact fun p σ' G' H' j r1 => p σ' G' H' (back j) j.g0 (sc.out c j.g0 r1.2)
  | bk e1 => exact fun p σ' G' H' j r1 => p σ' G' H' (back j) j.g0 (sc.out c j.g0 r1.2)
  | ct e1 => exact fun p σ' G' H' j r1 => p σ' G' H' (back j) j.g0 (sc.out c j.g0 r1.2)
  | rt a e1 => exact fun p v σ' G' H' H1 j hr r1 => p v σ' G' H' H1 (back j) j.g0 hr (sc.out c j.g0 r1.2)
  | ex x e1 => exact fun p cls d σ' G' H' j r1 hx => p cls d σ' G' H' (back j) j.g0 (sc.out c j.g0 r1.2) hx
  | bad => exact id
variable {F : Frm} {G H H' : Hp}
theorem wild_goN {S : Addr → Prop} (i : IV F G H) (z : Sub F.G0 F.H0) (hS : ∀ b, S b → F.H0 b = none ∧ ∃ vs, G b = some (.lst vs)) (h1 : ∀ b, ¬ S b → H' b = H b) (h2 : ∀ b, S b → ∃ vs, H' b = some (.lst vs)) :
    ∃ G', IV F G' H' ∧ Kept G G' ∧ (∀ b, G' b ≠ none → G b ≠ none) ∧ ∀ b o, G b = none → H b = some o → H' b = some o := by
  have keep : ∀ b o, H b = some o → (F.H0 b ≠ none ∨ ∀ vs, G b ≠ some (.lst vs)) → H' b = some o := fun b o e hn => by
    rw [h1 b fun hb => by
      obtain ⟨a, vs, h⟩ := hS b hb
      rcases hn with hn | hn
      · exact hn a
      · exact hn vs h]
    exact e
  have alv : ∀ b, H b ≠ none → H' b ≠ none := fun b hb => by
    by_cases hm : S b
    · obtain ⟨vs, h⟩ := h2 b hm
      rw [h]
      intro z
      cases z
    · rw [h1 b hm]
      exact hb
  let G' : Hp := fun b => match F.H0 b with
    | some _ => G b
    | none => noL G b
  have ga : ∀ b, F.H0 b ≠ none → G' b = G b := fun b hb => by
    show (match F.H0 b with | some _ => G b | none => noL G b) = G b
    cases z : F.H0 b with
    | some o => rfl
    | none => exact absurd z hb
  have gb : ∀ b, F.H0 b = none → G' b = noL G b := fun b hb => by
    show (match F.H0 b with | some _ => G b | none => noL G b) = noL G b
    rw [hb]
  have g1 : Kept G G' := fun b o e hn => by
    by_cases z : F.H0 b = none
    · rw [gb b z]; exact noL_kept b o e hn
    · rw [ga b z]; exact e
  have g2 : ∀ b o, G' b = some o → G b = some o ∧ (F.H0 b ≠ none ∨ NonL o) := fun b o e => by
    by_cases z : F.H0 b = none
    · rw [gb b z] at e
      exact ⟨(noL_some e).1, .inr (noL_some e).2⟩
    · rw [ga b z] at e
      exact ⟨e, .inl z⟩
  have g3 : ∀ b, G' b ≠ none → G b ≠ none := fun b hb => by
    cases e : G' b with
    | none => exact absurd e hb
    | some o => rw [(g2 b o e).1]; intro z; cases z
  have nol : ∀ b, G b = none → ∀ vs, G b ≠ some (.lst vs) := fun b e vs h => by rw [e] at h; cases h
  refine ⟨G', ⟨fun b o e => ?_, fun b o e => ?_, fun b h3 h4 => i.new b h3 (g3 b h4), fun b o h3 h4 => ?_, fun b h3 => alv b (i.al b h3), fun b o e => ?_, fun b h3 => ?_, fun b o e => ?_, fun b h3 => ?_, fun b xs e => ?_⟩, g1, g3, fun b o g e => keep b o e (.inr (nol b g))⟩
  · obtain ⟨e1, e2⟩ := g2 b o e
    exact keep b o (i.gh b o e1) (e2.imp id fun e2 vs z => by rw [e1] at z; cases z; exact e2 vs rfl)
  · rw [ga b (by rw [z b o e]; intro z; cases z)]
    exact i.g0 b o e
  · exact keep b o (i.fr b o h3 h4) (.inl (by rw [h4]; intro z; cases z))
  · exact keep b o (i.xs b o e) (.inr (nol b (i.xg b (by rw [e]; intro z; cases z))))
  · cases e : G' b with
    | none => rfl
    | some o => exact absurd (i.xg b h3) (by rw [(g2 b o e).1]; intro z; cases z)
  · exact keep b o (i.ys b o e) (.inr (nol b (i.yg b (by rw [e]; intro z; cases z))))
  · cases e : G' b with
    | none => rfl
    | some o => exact absurd (i.yg b h3) (by rw [(g2 b o e).1]; intro z; cases z)
  · by_cases hm : S b
    · obtain ⟨vs, h⟩ := h2 b hm
      rw [h] at e
      cases e
    · rw [h1 b hm] at e
      exact g1 b _ (i.tp b xs e) fun vs z => nomatch z
theorem Stb.pa {k : ε → ε} (a : Stb R k) : Stb (eH (hP r) R) (fun e => (e.1, k e.2)) := ⟨fun a1 b c ⟨o, σ', h1, h2, h3⟩ => ⟨o, σ', h1, h2, a.st a1 b c h3⟩⟩
theorem Stb.hdK {k : ε → ε} (a : Stb R k) : Stb (eH h R) (fun e => (none, k e.2)) := ⟨fun a1 b c ⟨o, σ', h1, h2, h3⟩ => ⟨o, σ', h1, fun x hx => (nomatch hx), a.st a1 b c h3⟩⟩
end
section
variable {ν ν' α β γ ε ρ : Type} {M : Mx} {R : ERep ε} {F : Frm} {G G' G1 H H' : Hp} {σ : Sg} {n : Nat} {rr : RS V ρ} {K : PySem.W.Frag}
/-- what a suite's line does: it goes on, or raises to the clauses -/
def PostT (M : Mx) (R : ERep ε) (F : Frm) (G : Hp) (W : WX) (D : Ends) : So ε ρ → Prop
  | .nx e => ∀ σ' G' H', IV F G' H' → Sub G G' → R.rel M.K F G' H' σ' e → D.nx σ' H'
  | .ex c e => ∀ cls d σ' G' H', IV F G' H' → Sub G G' → R.rel M.K F G' H' σ' e → xr M G' c cls d → W cls d σ' H'
  | _ => False
theorem PostT.up {W : WX} {D : Ends} {x : So ε ρ} (h : PostT M R F G W D x) (s : Sub G G1) : PostT M R F G1 W D x := by
  cases x with
  | nx e => exact fun σ' G' H' i z => h σ' G' H' i (s.trans z)
  | ex c e => exact fun cls d σ' G' H' i z => h cls d σ' G' H' i (s.trans z)
  | bk e => exact h
  | ct e => exact h
  | rt a e => exact h
  | bad => exact h
theorem st_T2 {r : Rep α} {r' : Rep β} (h : StR r) (h' : StR r') : StR (rT2 r r') := fun k ⟨L, ho, h1, h2, v, w, h3, h4, h5⟩ => ⟨L, ho, h1, k _ _ h2 (fun vs e => by rw [h3] at e; cases e), v, w, h3, h k h4, h' k h5⟩
theorem sp_scope {k : ε → ε} {m : ε → So ε ρ} {e : ε} {N C B : ε → Prop} {T : ρ → ε → Prop} (h : SoP (m (k e)) N C B T) : SoP (mScope k m e) N C B T := h
end
open PySem PySem.Spec PyProof.Rows L2 PySem.SeqAt PySem.W
section
variable {X : Cx} {K : PySem.W.Frag} {α : Type}
def gMin2L (p : List Int × List Int) : Option (List Int) := some (if p.2 < p.1 then p.2 else p.1)
end
section
variable {α β γ ε ρ : Type} {M : Mx} {R R' : ERep ε} {n : Nat} {r : Rep β} {r' : Rep α} {r'' : Rep γ} {q : ORep α} {q' : ORep γ} {own own' : Frm → Addr → Prop} [op : OwnP own] [op' : OwnP own'] {l : Ln ε α} {rr : RS V ρ}
/-- a name that was own is held frozen -/
structure Swf (R R' : ERep ε) (n : Nat) (r : Rep α) (l : Ln ε α) : Prop where
  to : ∀ {K F G H σ e v a}, R.rel K F G H σ e → l.get e = none → σ[n]? = some (some v) → r.rel K G v a → R'.rel K F G H σ (l.put (some a) e)
  bk : ∀ {K F G H σ e}, R'.rel K F G H σ e → R.rel K F G H σ (l.put none e)
theorem Swf.z : Swf (eOwP own q R) (eFr r' R) 0 r' Ln.z := by
  refine ⟨?_, ?_⟩
  · rintro K F G H σ e v a ⟨o, σ', rfl, ⟨z, w⟩ | ⟨x, L, ho, a1, a2, a3, a4, a5, a6, a7⟩⟩ hn hs hr
    · have hs : o = some v := by simpa using hs
      subst hs
      exact ⟨_, σ', rfl, fun x hx => ⟨v, rfl, by cases hx; exact hr⟩, w⟩
    · have hn : e.1 = none := hn
      rw [hn] at a1
      cases a1
  · rintro K F G H σ e ⟨o, σ', rfl, h2, h3⟩
    exact ⟨o, σ', rfl, .inl ⟨rfl, h3⟩⟩
end
open LamX (CodeO)
section
variable {ν ν' α β γ ε ρ ι : Type} {M : Mx} {R R2 : ERep ε} {F : Frm} {G G1 H H1 : Hp} {σ : Sg} {D : Ends} {n : Nat} {r : Rep α}
/-- what stood frozen and what is told by a call that knew no lists, together -/
theorem merge_new {G' H' : Hp} (i1 : IV F G1 H1) (j : IV ⟨noL G1, H1, [], fun _ => none, fun _ => none⟩ G' H') :
    ∃ G2, IV F G2 H' ∧ Sub G1 G2 ∧ Sub G' G2 ∧ Sub H1 H' ∧ (∀ b, H1 b ≠ none → G2 b ≠ none → G1 b ≠ none) ∧ NewL F G' := by
  let G2 : Hp := fun b => match G1 b with | some o => some o | none => G' b
  have hH : Sub H1 H' := fun b o e => j.fr b o List.not_mem_nil e
  have g1 : Sub G1 G2 := fun b o e => by show (match G1 b with | some o => some o | none => G' b) = some o; rw [e]
  have g0 : ∀ b, G1 b = none → G2 b = G' b := fun b e => by show (match G1 b with | some o => some o | none => G' b) = G' b; rw [e]
  have g2 : Sub G' G2 := fun b o e => by
    cases z : G1 b with
    | none => rw [g0 b z]; exact e
    | some u =>
      rw [g1 b u z]
      have e1 := hH b u (i1.gh b u z)
      have e2 := j.gh b o e
      rw [e1] at e2
      exact e2
  have nw : ∀ b, H1 b ≠ none → G2 b ≠ none → G1 b ≠ none := fun b h1 h2 z => by
    rw [g0 b z] at h2
    have := j.new b h1 h2
    obtain ⟨o, ho⟩ : ∃ o, noL G1 b = some o := Option.ne_none_iff_exists'.mp this
    rw [(noL_some ho).1] at z
    cases z
  refine ⟨G2, ?_, g1, g2, hH, nw, fun b vs e => ?_⟩
  · refine ⟨fun b o e => ?_, i1.g0.trans g1, fun b h1 h2 => i1.new b h1 (nw b (i1.al b h1) h2), fun b o h1 h2 => hH b o (i1.fr b o h1 h2), fun b h => hH.ne (i1.al b h), i1.xs.trans hH, fun b h => ?_, i1.ys.trans hH, fun b h => ?_, fun b xs hb => ?_⟩
    · cases z : G1 b with
      | none => rw [g0 b z] at e; exact j.gh b o e
      | some o1 =>
        rw [g1 b o1 z] at e
        cases e
        exact hH b _ (i1.gh b _ z)
    · cases z : G2 b with
      | none => rfl
      | some o => exact absurd (i1.xg b h) (nw b (i1.xs.ne h) (by rw [z]; intro z; cases z))
    · cases z : G2 b with
      | none => rfl
      | some o => exact absurd (i1.yg b h) (nw b (i1.ys.ne h) (by rw [z]; intro z; cases z))
    · exact g2 _ _ (j.tp b xs hb)
  · cases z : F.H0 b with
    | none => rfl
    | some o =>
      have h1 := i1.al b (by rw [z]; intro z; cases z)
      have h2 := j.new b h1 (by rw [e]; intro z; cases z)
      obtain ⟨u, hu⟩ : ∃ u, noL G1 b = some u := Option.ne_none_iff_exists'.mp h2
      have h3 := j.g0 b u hu
      rw [e] at h3
      cases h3
      exact absurd rfl ((noL_some hu).2 vs)
theorem xr_up {G G' : Hp} {c : Xc} {cls : Value} {d : Option Addr} (s : Sub G G') (h : xr M G c cls d) : xr M G' c cls d := by
  obtain ⟨h1, h2⟩ := h
  refine ⟨h1, ?_⟩
  obtain ⟨nm, fl⟩ := c
  cases fl with
  | none => exact h2
  | some q =>
    obtain ⟨dd, h4, h5⟩ := h2
    exact ⟨dd, h4, s _ _ h5⟩
def LamOKn (K : PySem.W.Frag) (cx : Str → Addr) (r : Rep α) (tl : TLm) (G : Hp) (x : Rs Unit α) : Prop := ∀ E G1 H1 Q, Sub G G1 → (Sub G1 H1 ∧ Tps G1 H1) → PostX K cx ⟨G1, H1, [], fun _ => none, fun _ => none⟩ (nf r) Q E x → tl E H1 Q
def rLamN (cx : Str → Addr) (r : Rep α) (q : Str) (f c' : Addr) (tl : TLm) : Rep (Rs Unit α) := ⟨fun K G v x => v = .ref f ∧ G c' = some (CodeO c' q) ∧ LamOKn K cx r tl G x, fun s ⟨h1, h2, h3⟩ => ⟨h1, s _ _ h2, fun E G1 H1 Q s1 => h3 E G1 H1 Q (s.trans s1)⟩⟩
/-- the names as a lambda sees them: what may change is gone, what is held otherwise is frozen -/
structure Wk2 (R R2 : ERep ε) (kl : ε → ε) : Prop where
  go : ∀ {K F F' G H H' σ e}, Sub F.G0 G → R.rel K F G H σ e → R2.rel K F' G H' σ (kl e)
theorem Wk2.nil : Wk2 eNil eNil id := ⟨fun _ h => h⟩
theorem Wk2.fr {r : Rep α} {kl : ε → ε} (h : Wk2 R R2 kl) : Wk2 (eFr r R) (eFr r R2) (fun e => (e.1, kl e.2)) := ⟨fun s ⟨o, σ', h1, h2, h3⟩ => ⟨o, σ', h1, h2, h.go s h3⟩⟩
theorem Wk2.pa {r : Rep α} {kl : ε → ε} (h : Wk2 R R2 kl) : Wk2 (eH (hP r) R) (eFr r R2) (fun e => (e.1, kl e.2)) := ⟨fun s ⟨o, σ', h1, h2, h3⟩ => ⟨o, σ', h1, fun x hx => let ⟨v, a, b⟩ := h2 x hx; ⟨v, a, r.mono s b⟩, h.go s h3⟩⟩
theorem Wk2.nw {r : Rep α} {kl : ε → ε} (h : Wk2 R R2 kl) : Wk2 (eH (hN r) R) (eFr r R2) (fun e => (e.1, kl e.2)) := ⟨fun s ⟨o, σ', h1, h2, h3⟩ => ⟨o, σ', h1, fun x hx => let ⟨v, a, Gx, b1, _, b3⟩ := h2 x hx; ⟨v, a, r.mono b1 b3⟩, h.go s h3⟩⟩
theorem Wk2.ow {own : Frm → Addr → Prop} [op : OwnP own] {q : ORep α} {kl : ε → ε} (h : Wk2 R R2 kl) : Wk2 (eOwP own q R) (eOwP own q R2) (fun e => (none, kl e.2)) := ⟨fun s ⟨o, σ', h1, h2⟩ => ⟨o, σ', h1, .inl ⟨rfl, by
  rcases h2 with ⟨_, b⟩ | ⟨_, _, _, _, _, _, _, _, _, b⟩
  · exact h.go s b
  · exact h.go s b⟩⟩⟩
def ttMN (K : PySem.W.Frag) (cx : Str → Addr) (r : Rep α) (rr : RS V β) (told : Rs Unit α → Rs Unit β) : TLT := fun q f c' tl H Q => spD K cx0 (aOne (ir (rLamN cx r q f c' tl))) rr told [.ref f] H Q E0
theorem newl_up {G' : Hp} {Hc Gc : Hp} (i : IV F Gc Hc) {b : Addr} (h : Hc b = none) : F.H0 b = none := by
  cases z : F.H0 b with
  | none => rfl
  | some o => exact absurd h (i.al b (by rw [z]; intro z; cases z))
theorem x_lamN {P : Addr} {q : Str} {cx : Str → Addr} {t : XK → TE} {r : Rep α} {rt : Rep β} {m : ε → Rs ε α} {kl : ε → ε} {told : Rs Unit α → Rs Unit β} (wk : Wk2 R R2 kl) (ht : ∀ E, EX ⟨M.K, E, cx⟩ R2 (t E) (nf r) m) :
    EX M (eS (eTb P q R)) (tLamG P q (ttMN M.K cx r (nf rt) told) t) (nf rt) (mLam told kl m) := fun F G H σ e i hR Q p => by
  obtain ⟨z0, ⟨ps, h1, h2, h3, h4⟩, o, hr⟩ := id hR
  refine ⟨ps, h1, h3, fun pos cv hc => let ⟨c, e1, e2⟩ := h4 pos cv hc; ⟨c, e1, i.gh _ _ e2⟩, fun f c' H1 hm => ?_⟩
  obtain ⟨G1, i1, s1, g1, R1⟩ := made_iv (M := M) i hR.2 h1 hm
  refine ⟨G1, (m (kl e)).out, ⟨i1.gh, i1.tp⟩, ⟨.ref f, rfl, rfl, g1, fun E G2 H2 Q' s2 st hp => ?_⟩, ?_⟩
  · refine ht E ⟨G2, H2, [], fun _ => none, fun _ => none⟩ G2 H2 σ (kl e) (.start st) ?_ Q' ?_
    · exact R2.mono (H := fun _ => none) s2 (fun b u z => nomatch z) (fun b z => absurd rfl z) (wk.go i1.g0 R1.2.2)
    · revert hp
      cases m (kl e) with
      | ok a e1 => exact fun hp v G' H' H1 j _ z _ => hp v G' H' H1 j z
      | ex c e1 => exact fun hp cls d G' H' j _ _ hx => hp cls d G' H' j hx
      | bad => exact id
  · unfold mLam at p
    revert p
    cases told (m (kl e)).out with
    | ok b u =>
      intro p v G' H' Hx j z
      obtain ⟨⟨Gx, w1, w2, w3⟩, rfl⟩ := z
      exact p v G' _ _ (i1.after j fun _ z => absurd z List.not_mem_nil) (s1.trans j.g0) ⟨⟨Gx, w1, fun b vs e => newl_up (G' := G') i1 (w2 b vs e), w3⟩, rfl⟩ ⟨z0, R_after j R1⟩
    | ex c u => exact id
    | bad => exact id
theorem s_tryAN {K : PySem.W.Frag} {cx cx' : Str → Addr} {E0' : XK} {rr : RS V ρ} {i j jf : Nat} {ns cs : List Str} {q : Str} {f c' : Addr} {tl : TLm} {la : Ln ε (Rs Unit α)} {l : Ln ε (Option Xc)} {le : Ln ε γ} {lf : Ln ε β} {g : α → β} {re : Rep γ} {rf : Rep β} {r : Rep α} (xk : Xk K cx ns cs)
    (ata : FrAt R 0 (rLamN cx r q f c' tl) la) (aty : FrAt R j (rO (rX cx)) l) (ate : FrAt R i re le) (fe : Fg R i le) (atf : HdAt R jf (hN rf) lf) (hg : ∀ G v a, r.rel K G v a → rf.rel K G v (g a)) :
    SX ⟨K, E0', cx'⟩ R rr (tTryA K (.ref (cx "SideError")) i j jf q f c' tl) (mTryA ns la l le lf g) := fun F G H σ e iv hR D p => by
  unfold mTryA at p
  cases ha : la.get e with
  | none => rw [ha] at p; exact p.elim
  | some x =>
    rw [ha] at p
    obtain ⟨v, h1, rfl, h2, h3⟩ := ata.rd hR ha
    refine ⟨h1, iv.gh _ _ h2, ?_⟩
    refine h3 _ G H _ .refl ⟨iv.gh, iv.tp⟩ ?_
    cases x with
    | bad => exact p.elim
    | ok a u =>
      intro v G' H' H1 j z
      obtain ⟨⟨Gx, w1, w2, w3⟩, rfl⟩ := z
      exact p _ G' _ (iv.after j fun _ z => absurd z List.not_mem_nil) j.g0 (atf.wr (R_after (M := ⟨K, E0', cx'⟩) j hR) ⟨Gx, w1, fun b vs e => newl_up (G' := G') iv (w2 b vs e), hg _ _ _ w3⟩)
    | ex c u =>
      dsimp only at p
      by_cases hn : c.name ∈ ns
      · rw [if_pos hn] at p
        rintro cls d G' H' jv ⟨rfl, hf⟩
        have i1 := iv.after jv fun _ z => absurd z List.not_mem_nil
        have R1 := R_after (M := ⟨K, E0', cx'⟩) jv hR
        refine ⟨xk.em _ hn, fun a ha => ⟨.ref a, List.getElem?_set_self (fe.ln R1), ha, ?_⟩⟩
        have st := Stp.new (o := exq a (.ref (cx c.name)) d) i1.gh ha
        have R3 := fe.st (.ref a) (R.mono st.g st.h st.n R1)
        have hx : (rX cx).rel K (upd G' a (exq a (.ref (cx c.name)) d)) (.ref a) c := by
          refine ⟨a, d, rfl, upd_same, ?_⟩
          obtain ⟨nm, fl⟩ := c
          cases fl with
          | none => exact hf
          | some q =>
            obtain ⟨dd, h4, h5⟩ := hf
            exact ⟨dd, h4, st.g _ _ h5⟩
        exact p _ _ _ (i1.step st) (jv.g0.trans st.g) (ate.wn (aty.wr (v := .ref a) (a := some c) R3 ⟨(fun z => (nomatch z)), hx⟩))
      · rw [if_neg hn] at p
        exact p.elim
theorem ScP.tb {P : Addr} {z : Str} {k : ε → ε} (a : ScP R R2 k) : ScP (eTb P z R) (eTb P z R2) k :=
  ⟨fun c ⟨t, ⟨o1, o2, o3⟩, b⟩ => ⟨t, ⟨by rw [c.ws]; exact o1, by rw [c.X]; exact o2, by rw [c.Y]; exact o3⟩, a.inn c b⟩,
   fun c s ⟨t, ⟨o1, o2, o3⟩, b⟩ => ⟨t, ⟨by rw [← c.ws]; exact o1, by rw [← c.X]; exact o2, by rw [← c.Y]; exact o3⟩, a.out c s b⟩⟩
theorem HdAt.sT {h : HoldR α} {l : Ln ε α} {P : Addr} {z : Str} (a : HdAt R n h l) : HdAt (eTb P z R) n h l :=
  ⟨fun ⟨_, _, b⟩ e => a.rd b e, fun ⟨t, o, b⟩ e => ⟨t, o, a.wr b e⟩, fun ⟨t, o, b⟩ => ⟨t, o, a.kl b⟩⟩
end
section
variable {ν ν' α β γ ε ρ ι : Type} {M : Mx} {R R2 : ERep ε} {F : Frm} {G G1 H H1 : Hp} {σ : Sg} {D : Ends} {n : Nat} {r : Rep α} {l : Ln ε α} {rr : RS V ρ}
/-- as merge_new, where some lists are known that are new -/
theorem merge_gs {Gs G' H' : Hp} (i1 : IV F G1 H1) (sG : Sub Gs G1) (nG : NewL F Gs) (j : IV ⟨Gs, H1, [], fun _ => none, fun _ => none⟩ G' H') :
    ∃ G2, IV F G2 H' ∧ Sub G1 G2 ∧ Sub G' G2 ∧ Sub H1 H' ∧ (∀ b, H1 b ≠ none → G2 b ≠ none → G1 b ≠ none) ∧ NewL F G' := by
  let G2 : Hp := fun b => match G1 b with | some o => some o | none => G' b
  have hH : Sub H1 H' := fun b o e => j.fr b o List.not_mem_nil e
  have g1 : Sub G1 G2 := fun b o e => by show (match G1 b with | some o => some o | none => G' b) = some o; rw [e]
  have g0 : ∀ b, G1 b = none → G2 b = G' b := fun b e => by show (match G1 b with | some o => some o | none => G' b) = G' b; rw [e]
  have g2 : Sub G' G2 := fun b o e => by
    cases z : G1 b with
    | none => rw [g0 b z]; exact e
    | some u =>
      rw [g1 b u z]
      have e1 := hH b u (i1.gh b u z)
      have e2 := j.gh b o e
      rw [e1] at e2
      exact e2
  have nw : ∀ b, H1 b ≠ none → G2 b ≠ none → G1 b ≠ none := fun b h1 h2 z => by
    rw [g0 b z] at h2
    have := j.new b h1 h2
    obtain ⟨o, ho⟩ : ∃ o, Gs b = some o := Option.ne_none_iff_exists'.mp this
    rw [sG b o ho] at z
    cases z
  refine ⟨G2, ?_, g1, g2, hH, nw, fun b vs e => ?_⟩
  · refine ⟨fun b o e => ?_, i1.g0.trans g1, fun b h1 h2 => i1.new b h1 (nw b (i1.al b h1) h2), fun b o h1 h2 => hH b o (i1.fr b o h1 h2), fun b h => hH.ne (i1.al b h), i1.xs.trans hH, fun b h => ?_, i1.ys.trans hH, fun b h => ?_, fun b xs hb => ?_⟩
    · cases z : G1 b with
      | none => rw [g0 b z] at e; exact j.gh b o e
      | some o1 =>
        rw [g1 b o1 z] at e
        cases e
        exact hH b _ (i1.gh b _ z)
    · cases z : G2 b with
      | none => rfl
      | some o => exact absurd (i1.xg b h) (nw b (i1.xs.ne h) (by rw [z]; intro z; cases z))
    · cases z : G2 b with
      | none => rfl
      | some o => exact absurd (i1.yg b h) (nw b (i1.ys.ne h) (by rw [z]; intro z; cases z))
    · exact g2 _ _ (j.tp b xs hb)
  · cases z : F.H0 b with
    | none => rfl
    | some o =>
      have h1 := i1.al b (by rw [z]; intro z; cases z)
      have h2 := j.new b h1 (by rw [e]; intro z; cases z)
      obtain ⟨u, hu⟩ : ∃ u, Gs b = some u := Option.ne_none_iff_exists'.mp h2
      have h3 := j.g0 b u hu
      rw [e] at h3
      cases h3
      rw [nG b vs hu] at z
      cases z
/-- one name alone, frozen -/
def eV (n : Nat) (r : Rep α) : ERep (Option α × Unit) := ⟨fun K F G H σ e => n < σ.length ∧ ∀ x, e.1 = some x → ∃ v, σ[n]? = some (some v) ∧ r.rel K G v x, fun g _ _ ⟨h, k⟩ => ⟨h, fun x hx => let ⟨v, a, b⟩ := k x hx; ⟨v, a, r.mono g b⟩⟩, fun h => h, fun h => h⟩
theorem at_eV {r : Rep α} : FrAt (eV n r) n r (Ln.z : Ln (Option α × Unit) α) := by
  refine ⟨?_, ?_, ?_, ?_, ?_⟩
  · rintro K F G H σ e a ⟨h, k⟩ e1
    exact k a e1
  · rintro K F G H σ e a v ⟨h, k⟩ hv
    refine ⟨by rw [List.length_set]; exact h, fun x hx => ⟨v, List.getElem?_set_self h, ?_⟩⟩
    cases hx
    exact hv
  · rintro K F G H σ e ⟨h, k⟩
    exact ⟨h, fun x hx => nomatch hx⟩
  · rintro K F G H σ e ⟨h, k⟩
    exact ⟨by rw [List.length_set]; exact h, fun x hx => nomatch hx⟩
  · rintro K F G H G' H' σ e e' ⟨h, k⟩ s ⟨h', k'⟩
    exact ⟨h, fun x hx => let ⟨v, a, b⟩ := k x hx; ⟨v, a, r.mono s b⟩⟩
theorem e_hdN {K : PySem.W.Frag} {h : HoldR α} {o : Option V} {e : ε} (t : R.rel K F G H σ e) : (eH h R).rel K F G H (o :: σ) (none, e) := ⟨_, _, rfl, fun _ z => (nomatch z), t⟩
theorem Fg.sH {h : HoldR α} {l : Ln ε β} (a : Fg R n l) : Fg (eH h R) (n + 1) (Ln.s l) := by
  refine ⟨?_, ?_⟩
  · rintro K F G H σ e ⟨o, σ', rfl, h2, h3⟩
    simpa using a.ln h3
  · rintro K F G H σ e v ⟨o, σ', rfl, h2, h3⟩
    exact ⟨o, _, rfl, h2, a.st v h3⟩
/-- what is reckoned of one new name alone is new -/
def mSmall (l : Ln ε α) (m : Option α × Unit → Rs (Option α × Unit) β) : ε → Rs ε β := fun e => match l.get e with
  | some x => match m (some x, ()) with
    | .ok b _ => .ok b e
    | _ => .bad
  | none => .bad
theorem x_small {t : TE} {r' : Rep β} {m : Option α × Unit → Rs (Option α × Unit) β} (at' : HdAt R n (hN r) l) (h : EX M (eV n r) t (fz r') m) : EX M R t (nf r') (mSmall l m) := fun F G H σ e i hR Q p => by
  unfold mSmall at p
  cases hl : l.get e with
  | none => rw [hl] at p; exact p.elim
  | some x =>
    rw [hl] at p
    dsimp only at p
    obtain ⟨v, hs, Gx, z1, z2, z3⟩ := at'.rd hR hl
    let Gs : Hp := fun b => match Gx b with | some o => some o | none => noL G b
    have sx : Sub Gx Gs := fun b o e => by show (match Gx b with | some o => some o | none => noL G b) = some o; rw [e]
    have s0 : ∀ b, Gx b = none → Gs b = noL G b := fun b e => by show (match Gx b with | some o => some o | none => noL G b) = noL G b; rw [e]
    have sG : Sub Gs G := fun b o e => by
      cases z : Gx b with
      | none => rw [s0 b z] at e; exact noL_sub b o e
      | some u => rw [sx b u z] at e; cases e; exact z1 b _ z
    have nG : NewL F Gs := fun b vs e => by
      cases z : Gx b with
      | none => rw [s0 b z] at e; exact absurd rfl ((noL_some e).2 vs)
      | some u => rw [sx b u z] at e; cases e; exact z2 b vs z
    have tG : Tps Gs H := fun b xs hb => by
      have hg := i.tp b xs hb
      cases z : Gx b with
      | none => rw [s0 b z]; exact noL_kept b _ hg fun vs z => nomatch z
      | some u => rw [sx b u z, ← z1 b u z, hg]
    have hn : n < σ.length := by
      rcases Nat.lt_or_ge n σ.length with z | z
      · exact z
      · rw [List.getElem?_eq_none z] at hs
        cases hs
    refine h ⟨Gs, H, [], fun _ => none, fun _ => none⟩ Gs H σ (some x, ()) (.start ⟨sG.trans i.gh, tG⟩) ⟨hn, fun y hy => ⟨v, hs, by cases hy; exact r.mono sx z3⟩⟩ Q ?_
    revert p
    cases m (some x, ()) with
    | ok b e1 =>
      intro p w G' H' H1 j _ hr _
      obtain ⟨G2, iv, g1, g2, hH, nw, hnl⟩ := merge_gs i sG nG j
      exact p w G2 H' H' iv g1 ⟨⟨G', g2, hnl, hr.1⟩, rfl⟩ (R.mono g1 hH nw hR)
    | ex c e1 => exact fun p => p.elim
    | bad => exact fun p => p.elim
theorem x_castN {t : TE} {r : Rep α} {r' : Rep β} {f : α → Option β} {m : ε → Rs ε α} (c : CastR r r' f) (h : EX M R t (nf r) m) : EX M R t (nf r') (mUn f m) := fun F G H σ e i hR Q p =>
  h F G H σ e i hR _ (p.bind nf_h fun v a e1 G1 H1 i1 s1 R1 r1 p1 => by
    have p1 : Post M R F G1 σ (nf r') Q (.of (f a) e1) := p1
    cases hf : f a with
    | none => rw [hf] at p1; exact p1.elim
    | some b =>
      rw [hf] at p1
      obtain ⟨⟨Gx, w1, w2, w3⟩, _⟩ := r1
      exact p1 v G1 H1 H1 i1 .refl ⟨⟨Gx, w1, w2, c _ _ _ _ _ w3 hf⟩, rfl⟩ R1)
theorem x_noneN {t : TE} {r : Rep α} {m : ε → Rs ε Unit} (h : EX M R t (fz rN) m) : EX M R t (nf (rO r)) (mNone m) := fun F G H σ e i hR Q p =>
  h F G H σ e i hR _ (p.bind fz_h fun v a e1 G1 H1 i1 s1 R1 r1 p1 => p1 v G1 H1 H1 i1 .refl ⟨(show ∃ Gx, Sub Gx G1 ∧ NewL F Gx ∧ (rO r).rel M.K Gx v none from ⟨fun _ => none, fun b o z => (nomatch z), fun b vs z => (nomatch z), r1.1⟩), rfl⟩ R1)
/-- a new list of one's own -/
theorem x_nfO {t : TE} {r : Rep α} (st : StR r) {m : ε → Rs ε (List α)} (h : EX M R t (fs (oL r)) m) : EX M R t (nf (rz (oL r))) m := fun F G H σ e i hR Q p => by
  refine h F G H σ e i hR Q ?_
  revert p
  cases m e with
  | ok a e' =>
    rintro p v G' H' H1 i1 s1 ⟨L, ho, rfl, h1, h2, h3, h4, rfl⟩ R1
    have sg : Sub G' (upd G' L ho) := sub_upd h2
    refine p (.ref L) (upd G' L ho) H' H' ⟨upd_sub i1.gh h1, i1.g0.trans sg, fun b hb hn => ?_, i1.fr, i1.al, i1.xs, fun b hb => ?_, i1.ys, fun b hb => ?_, fun b xs hb => sg _ _ (i1.tp b xs hb)⟩ (s1.trans sg) ⟨⟨upd (noL G') L ho, fun b o e => ?_, fun b vs e => ?_, L, ho, rfl, upd_same, ?_⟩, rfl⟩ (R.mono sg hide_sub (fun b hb hn => ?_) R1)
    · rcases upd_some hn with rfl | z
      · exact absurd h3.1 hb
      · exact i1.new b hb z
    · rw [upd_ne (show b ≠ L from fun z => hb (by rw [z]; exact h3.2.1))]
      exact i1.xg b hb
    · rw [upd_ne (show b ≠ L from fun z => hb (by rw [z]; exact h3.2.2))]
      exact i1.yg b hb
    · by_cases hb : b = L
      · subst hb
        rw [upd_same] at e ⊢
        exact e
      · rw [upd_ne hb] at e ⊢
        exact noL_sub b o e
    · by_cases hb : b = L
      · subst hb
        exact h3.1
      · rw [upd_ne hb] at e
        exact absurd rfl ((noL_some e).2 vs)
    · obtain ⟨vs, h5, h6⟩ := h4
      refine ⟨vs, h5, h6.mono fun _ _ hx => st (G := G') (fun b o e hn => ?_) hx⟩
      by_cases hb : b = L
      · subst hb
        rw [h2] at e
        cases e
      · rw [upd_ne hb]
        exact noL_kept b o e hn
    · rcases upd_some hn with rfl | z
      · exact absurd rfl (hide_some (Option.ne_none_iff_exists'.mp hb).choose_spec).1
      · exact z
  | ex c e' => exact id
  | bad => exact id
mutual
def nl : Th → Bool
  | .int _ => true
  | .bl _ => true
  | .non => true
  | .str _ => true
  | .tup xs => nls xs
  | .lst _ => false
  | .dic _ => false
  | .dct _ => false
def nls : List Th → Bool
  | [] => true
  | x :: xs => nl x && nls xs
end
mutual
theorem thR_kept {G G' : Hp} (s : Kept G G') : ∀ {v : V} {t : Th}, nl t = true → thR G v t → thR G' v t
  | v, .int i, _, h => by unfold thR at h ⊢; exact h
  | v, .bl b, _, h => by unfold thR at h ⊢; exact h
  | v, .non, _, h => by unfold thR at h ⊢; exact h
  | v, .str x, _, h => by unfold thR at h ⊢; exact h
  | v, .lst xs, z, h => by unfold nl at z; cases z
  | v, .tup xs, z, h => by
    unfold nl at z
    unfold thR at h ⊢
    obtain ⟨L, vs, h1, h2, h3⟩ := h
    exact ⟨L, vs, h1, s _ _ h2 (fun ws e => by cases e), thRs_kept s z h3⟩
  | v, .dic kvs, z, h => by unfold nl at z; cases z
  | v, .dct kvs, z, h => by unfold nl at z; cases z
theorem thRs_kept {G G' : Hp} (s : Kept G G') : ∀ {vs : List V} {ts : List Th}, nls ts = true → thRs G vs ts → thRs G' vs ts
  | vs, [], _, h => by unfold thRs at h ⊢; exact h
  | vs, x :: xs, z, h => by
    unfold nls at z
    obtain ⟨z1, z2⟩ := Bool.and_eq_true_iff.mp z
    unfold thRs at h ⊢
    obtain ⟨v, ws, h1, h2, h3⟩ := h
    exact ⟨v, ws, h1, thR_kept s z1 h2, thRs_kept s z2 h3⟩
end
structure ArgStB (ra : IR (List V) α) (p : α → Bool) : Prop where
  st : ∀ {K G G' H vs a}, p a = true → Kept G G' → Sub G' H → ra K G H vs a → ra K G' H vs a
theorem astb_th : ArgStB (aOne (ir rTh)) nl := ⟨fun z k _ ⟨v, h1, h2⟩ => ⟨v, h1, thR_kept k z h2⟩⟩
theorem astb_cons {r : Rep α} {ra : IR (List V) β} {p : β → Bool} (h : StR r) (h2 : ArgStB ra p) : ArgStB (aCons (ir r) ra) (fun a => p a.2) := ⟨fun z k s ⟨v, ws, e, h1, h3⟩ => ⟨v, ws, e, h k h1, h2.st z k s h3⟩⟩
theorem astb_consR {r : Rep α} {ra : IR (List V) β} {p : β → Bool} (h : StR r) (h2 : ArgStB ra p) : ArgStB (aCons (rd (oL r)) ra) (fun a => p a.2) := ⟨fun z k s ⟨v, ws, e, ⟨L, ho, e1, hL, vs, h3, h4⟩, h5⟩ => ⟨v, ws, e, ⟨L, ho, e1, hL, vs, h3, h4.mono fun _ _ => h k⟩, h2.st z k s h5⟩⟩
/-- the call of a def whose arguments are of the kind asked -/
def mCallP (p : α → Bool) (f : α → Rs Unit ρ) (m : ε → Rs ε α) : ε → Rs ε ρ := fun e => (m e).bind fun a e1 => if p a = true then (match f a with
  | .ok b _ => .ok b e1 | .ex c _ => .ex c e1 | .bad => .bad) else .bad
theorem x_callNEP {t : TA} {ra : IR (List V) α} {r : Rep β} {f : α → Rs Unit β} {m : ε → Rs ε α} {p : α → Bool} (ar : ArgStB ra p) (h : EX M R t (is ra) m) : EX M R (tCall (spX M.K M.cx ra (fz r) f) [] M.E t) (nf r) (mCallP p f m) := fun F G H σ e i hR Q q =>
  h F G H σ e i hR _ (q.bind is_h fun vs a e1 G1 H1 i1 s1 R1 r1 p1 => by
    rw [List.append_nil]
    by_cases hp : p a = true
    · rw [if_pos hp] at p1
      have sN : Sub (noL G1) H1 := noL_sub.trans i1.gh
      refine ⟨noL G1, a, ⟨sN, fun b xs hb => noL_kept _ _ (i1.tp b xs hb) fun vs z => nomatch z⟩, ar.st hp noL_kept sN r1.1, ?_⟩
      revert p1
      cases f a with
      | ok b u =>
        intro p1 v G' H' Hx j hr
        obtain ⟨G2, iv, g1, g2, hH, nw, hn⟩ := merge_new i1 j
        exact p1 v G2 H' H' iv g1 ⟨⟨G', g2, hn, hr.1⟩, rfl⟩ (R.mono g1 hH nw R1)
      | ex c u =>
        intro p1 cls d G' H' j hx
        obtain ⟨G2, iv, g1, g2, hH, nw, hn⟩ := merge_new i1 j
        exact p1 cls d G2 H' iv g1 (R.mono g1 hH nw R1) (xr_up (M := M) g2 hx)
      | bad => exact id
    · rw [if_neg hp] at p1
      exact p1.elim)
theorem x_callNESP {K : PySem.W.Frag} {cx : Str → Addr} {E : XK} {t : TA} {ra : IR (List V) α} {r : Rep ρ} {f : α → Rs Unit ρ} {m : ε → Rs ε α} {p : α → Bool} (ar : ArgStB ra p) (h : EX ⟨K, E, cx⟩ R t (is ra) m) : EX ⟨K, E, cx⟩ R (tCallS (spX K cx ra (fz r) f) (WE fun cls d _ H => E cls d H) t) (nf r) (mCallP p f m) := fun F G H σ e i hR Q q => by
  have := x_callNEP (r := r) (f := f) ar h F G H σ e i hR Q q
  unfold tCall at this
  simp only [List.append_nil] at this
  exact this
def gCat21 (p : α × β) (xs : List γ) : Option (α × β × γ) := match xs with | [z] => some (p.1, p.2, z) | _ => none
theorem v_cat21 {K : PySem.W.Frag} {r : Rep α} {r' : Rep β} {r'' : Rep γ} : VR2 K (rCatA K) (ir (rT2 r r')) (ir (rT r'')) (rT3 r r' r'') gCat21 := fun G H v w a b c Q s ⟨L, ho, h1, h2, v1, v2, h3, h4, h5⟩ ⟨L', ho', h1', h2', vs', h3', h4'⟩ hg k => by
  subst h1 h3 h1' h3'
  cases h4' with
  | nil => cases hg
  | @cons w1 z ws zs q1 q2 =>
    cases q2 with
    | cons _ _ => cases hg
    | nil =>
      cases hg
      exact ⟨L, L', [v1, v2], [w1], rfl, rfl, sqt_of s h2, sqt_of s h2', by rw [sizeLine_eq]; simp, (fun e => nomatch e), (fun _ e => nomatch e), fun _ _ p hp => k (.ref p) _ _ (.new s hp) ⟨p, _, rfl, upd_same, v1, v2, w1, rfl, r.mono (sub_upd (s.no hp)) h4, r'.mono (sub_upd (s.no hp)) h5, r''.mono (sub_upd (s.no hp)) q1⟩⟩
theorem Stb.tb {P : Addr} {z : Str} {k : ε → ε} (a : Stb R k) : Stb (eTb P z R) k := ⟨fun {K F G G' H H' σ e} h1 h2 h3 ⟨⟨ps, t1, t2, t3, t4⟩, o, b⟩ => by
  have gP : G' P = none := by
    cases q : G' P with
    | none => rfl
    | some u => exact absurd t2 (h2 P (by rw [q]; intro w; cases w))
  refine ⟨⟨ps, h3 _ _ t2 t1, gP, t3, fun pos cv hc => let ⟨c, e1, e2⟩ := t4 pos cv hc; ⟨c, e1, h1 _ _ e2 fun vs w => nomatch w⟩⟩, o, a.st h1 h2 (fun b u g e => ?_) b⟩
  obtain ⟨n1, e1⟩ := hide_some e
  rw [hide_ne n1]
  exact h3 b u g e1⟩
/-- x[1].append(None), x a pair or a text, new in the scope -/
def mApp1N (l : Ln ε ((β × List α) ⊕ Str)) (k : ε → ε) : ε → So ε ρ := fun e => match l.get e with
  | some (.inl p) => if p.2.length < 1000000 then .nx (k e) else .bad
  | _ => .bad
theorem wx_app1N {r1 : Rep β} {r2 : Rep α} {l : Ln ε ((β × List α) ⊕ Str)} {k : ε → ε} (at' : HdAt (eS R) n (hN (rSum (rT2 r1 (rL r2)) rS)) l) (stb : Stb R k) : SXW M (eS R) rr (tDrop (tBM M.K "list" rAppend (tOp (rIxT M.K) (tVar n) (tC (.int 1))) (tCons (tC .non) tNil))) (mApp1N l k) := fun F G H σ e i hR D p => by
  unfold mApp1N at p
  cases hl : l.get e with
  | none => rw [hl] at p; exact p.elim
  | some o =>
    cases o with
    | inr s => rw [hl] at p; exact p.elim
    | inl x =>
      rw [hl] at p
      dsimp only at p
      by_cases hx : x.2.length < 1000000
      · rw [if_pos hx] at p
        obtain ⟨v, hs, Gx, z1, z2, z3⟩ := at'.rd hR hl
        obtain ⟨Lt, ho, rfl, g1, v1, w1, rfl, g2, L, ho2, rfl, g3, vs, rfl, g4⟩ := z3
        have hLt := i.gh _ _ (z1 _ _ g1)
        have hL := i.gh _ _ (z1 _ _ g3)
        refine ⟨_, hs, Lt, [v1, .ref L], 1, .ref L, rfl, rfl, sqt_h hLt, rfl, tyL_h hL, L, vs, .non, rfl, rfl, hL, by rw [g4.length, sizeLine_eq]; omega, ?_⟩
        obtain ⟨G', i', q1, q2, q3⟩ := wild_goN (S := fun b => b = L) (H' := upd _ L (.lst (vs ++ [.non]))) i hR.1 (fun b hb => by subst hb; exact ⟨z2 _ vs g3, vs, z1 _ _ g3⟩) (fun b hb => upd_ne hb) (fun b hb => by subst hb; exact ⟨_, upd_same⟩)
        exact p σ G' _ i' ⟨hR.1, stb.st q1 q2 q3 hR.2⟩
      · rw [if_neg hx] at p
        exact p.elim
theorem rp_small {l : Ln ε α} {m : Option α × Unit → Rs (Option α × Unit) β} {e : ε} {Q : β → ε → Prop} : RsP (mSmall l m e) Q = OpP (l.get e) fun x => RsP (m (some x, ())) fun b _ => Q b e := by
  unfold mSmall
  cases l.get e with
  | none => simp only [RsP_eq, OpP_eq]; exact propext ⟨fun h => h.elim, fun h => h.elim⟩
  | some x =>
    rw [op_some]
    dsimp only
    cases m (some x, ()) <;> (simp only [RsP_eq]; exact propext ⟨id, id⟩)
theorem sp_app1N {l : Ln ε ((β × List α) ⊕ Str)} {k : ε → ε} {e : ε} {x : β × List α} {N C B : ε → Prop} {T : ρ → ε → Prop} (h : l.get e = some (.inl x)) (hz : x.2.length < 1000000) (q : N (k e)) : SoP (mApp1N l k e : So ε ρ) N C B T := by
  unfold mApp1N
  rw [h]
  dsimp only
  rw [if_pos hz]
  exact .nx q
end
section
def rEqN (K : PySem.W.Frag) : R2 := fun x y H Q => ∃ a b vs, x = .ref a ∧ y = .ref b ∧ SqL K H a vs ∧ SqL K H b [] ∧ Q (.bl (decide (vs = []))) H
theorem op_eqN {X : Cx} (hu : X.A.units + 64 < cLine) : OpR X (compareOp .Eq) (rEqN X.K) := by
  intro pins s σ H x y v u Q I rx ry h
  obtain ⟨a, b, vs, rfl, rfl, ha, hb, q⟩ := h
  obtain rfl : v = Value.ref a := rx
  obtain rfl : u = Value.ref b := ry
  obtain ⟨its, rv, pa, _⟩ := I.list ha
  obtain ⟨its', rv', pb, _⟩ := I.list hb
  have hu' : X.A.units < cLine := by omega
  have hl := rv.length
  have hl' := rv'.length
  by_cases hz : vs = []
  · subst hz
    have e1 : its = [] := List.length_eq_zero_iff.mp (by simpa using hl.symm)
    have e2 : its' = [] := List.length_eq_zero_iff.mp (by simpa using hl'.symm)
    subst e1 e2
    have := SeqAt.RcAt.lists (A := X.A) (s := s) (e := fun _ => true) pa.isList pb.isList rfl hu' (fun j h1 _ => absurd h1 (by simp))
    exact this X.prog X.w _ _ ⟨.bl true, H, I, rfl, by simpa using q⟩
  · have := SeqAt.RcAt.lists_lengths (A := X.A) (s := s) pa.isList pb.isList (by
      have e2 : its' = [] := List.length_eq_zero_iff.mp (by simpa using hl'.symm)
      subst e2
      have : vs.length ≠ 0 := fun z => hz (List.length_eq_zero_iff.mp z)
      simp
      intro z
      subst z
      simp at hl
      exact hz hl) hu'
    exact this X.prog X.w _ _ ⟨.bl false, H, I, rfl, by simpa [hz] using q⟩
def gEqN {α β : Type} (xs : List α) (ys : List β) : Option Bool := match ys with
  | [] => some (match xs with | [] => true | _ => false)
  | _ => none
theorem v_eqN {α β : Type} {K : PySem.W.Frag} {r : Rep α} {r' : Rep β} : VR2 K (rEqN K) (rd (oL r)) (rd (oL r')) rB gEqN := fun G H v w a b c Q s ⟨L, ho, e0, h1, vs, e1, h2⟩ ⟨L', ho', e0', h1', vs', e1', h2'⟩ hg k => by
  subst e0 e0' e1 e1'
  cases h2' with
  | cons _ _ => cases hg
  | nil =>
    refine ⟨L, L', vs, rfl, rfl, sql_h h1, sql_h h1', ?_⟩
    cases h2 with
    | nil => cases hg; exact k _ G H (.refl s) rfl
    | cons _ _ => cases hg; exact k _ G H (.refl s) rfl
end
open LamX (CodeO)
section
variable {ν ν' α β γ ε ρ ι : Type} {M : Mx} {R R2 : ERep ε} {F : Frm} {G G1 H H1 : Hp} {σ : Sg} {D : Ends} {n : Nat} {r : Rep α} {l : Ln ε α} {K : PySem.W.Frag}
theorem tb_swap {P1 P2 : Addr} {q1 q2 : Str} {e : ε} (h : (eTb P1 q1 (eTb P2 q2 R)).rel K F G H σ e) : (eTb P2 q2 (eTb P1 q1 R)).rel K F G H σ e := by
  obtain ⟨t1, o1, t2, o2, b⟩ := h
  obtain ⟨n1, t2'⟩ := t2.show
  exact ⟨t2', o2, t1.hide n1.symm, o1, by rw [hide_comm]; exact b⟩
theorem x_swap {P1 P2 : Addr} {q1 q2 : Str} {t : Sg → Hp → (ν → Hp → Prop) → Prop} {rs : RS ν α} {m : ε → Rs ε α} (h : EX M (eTb P2 q2 (eTb P1 q1 R)) t rs m) : EX M (eTb P1 q1 (eTb P2 q2 R)) t rs m := fun F G H σ e i hR Q p => by
  refine h F G H σ e i (tb_swap hR) Q ?_
  revert p
  cases m e with
  | ok a e1 => exact fun p v G' H' H1 i1 s1 hr R1 => p v G' H' H1 i1 s1 hr (tb_swap R1)
  | ex c e1 => exact fun p cls d G' H' i1 s1 R1 hx => p cls d G' H' i1 s1 (tb_swap R1) hx
  | bad => exact id
theorem Wk2.tb {P : Addr} {z : Str} {kl : ε → ε} (h : Wk2 R R2 kl) : Wk2 (eTb P z R) R2 kl := ⟨fun {K F F' G H H' σ e} s ⟨_, _, b⟩ => h.go (H := hide H P) s b⟩
theorem x_lamW {P : Addr} {q : Str} {cx : Str → Addr} {t : XK → TE} {r : Rep α} {rt : Rep β} {m : ε → Rs ε α} {kl : ε → ε} {told : Rs Unit α → Rs Unit β} (wk : Wk2 R R2 kl) (ht : ∀ E, EX ⟨M.K, E, cx⟩ R2 (t E) (fz r) m) :
    EX M (eTb P q R) (tLamG P q (ttM M.K cx r (fz rt) told) t) (fz rt) (mLam told kl m) := fun F G H σ e i hR Q p => by
  obtain ⟨⟨ps, h1, h2, h3, h4⟩, o, hr⟩ := id hR
  refine ⟨ps, h1, h3, fun pos cv hc => let ⟨c, e1, e2⟩ := h4 pos cv hc; ⟨c, e1, i.gh _ _ e2⟩, fun f c' H1 hm => ?_⟩
  obtain ⟨G1, i1, s1, g1, R1⟩ := made_iv (M := M) i hR h1 hm
  refine ⟨G1, (m (kl e)).out, ⟨i1.gh, i1.tp⟩, ⟨.ref f, rfl, rfl, g1, fun E G2 H2 Q' s2 st hp => ?_⟩, ?_⟩
  · refine ht E ⟨G2, H2, [], fun _ => none, fun _ => none⟩ G2 H2 σ (kl e) (.start st) ?_ Q' ?_
    · exact R2.mono (H := fun _ => none) s2 (fun b u z => nomatch z) (fun b z => absurd rfl z) (wk.go i1.g0 R1.2.2)
    · revert hp
      cases m (kl e) with
      | ok a e1 => exact fun hp v G' H' H1 j _ z _ => hp v G' H' H1 j z
      | ex c e1 => exact fun hp cls d G' H' j _ _ hx => hp cls d G' H' j hx
      | bad => exact id
  · unfold mLam at p
    revert p
    cases told (m (kl e)).out with
    | ok b u => exact fun p v G' H' Hx j z => p v G' H' H' (i1.after j fun _ z => absurd z List.not_mem_nil) (s1.trans j.g0) ⟨z.1, rfl⟩ (R_after j R1)
    | ex c u => exact id
    | bad => exact id
def spDT2 (K : PySem.W.Frag) (P1 : Addr) (z1 : Str) (P2 : Addr) (z2 : Str) (ra : IR (List V) α) (rr : RS V ρ) (f : α → Rs Unit ρ) : Sp := fun vs H Q E => ∃ G a, (Sub G H ∧ Tps G H) ∧ TabG P1 z1 G H ∧ TabG P2 z2 G (hide H P1) ∧ ra K G (hide (hide H P1) P2) vs a ∧ PostD K cx0 ⟨G, H, [P1, P2], fun _ => none, fun _ => none⟩ rr Q E (f a)
theorem len_DT2 {P1 P2 : Addr} {z1 z2 : Str} {ra : IR (List V) α} {rr : RS V ρ} {f : α → Rs Unit ρ} {n : Nat} (h : ALen ra n) : ∀ vs H Q E, spDT2 K P1 z1 P2 z2 ra rr f vs H Q E → vs.length = n := fun vs H Q E ⟨G, a, _, _, _, hr, _⟩ => h _ _ _ _ _ hr
theorem d_DT2 {P1 P2 : Addr} {z1 z2 : Str} {cx : Str → Addr} {E : XK} {N : List Str} {vs : List V} {Q : VK} {rr : RS V ρ} {t : TS} {mb : ε → So ε ρ} {ra : IR (List V) α} {e0 : α → ε} {dn : Option ρ} {E' : XK} (hs : SX ⟨K, E', cx⟩ (eTb P1 z1 (eTb P2 z2 R)) rr t mb)
    (h0 : ∀ G H vs a, Sub G H → ra K G (hide (hide H P1) P2) vs a → R.rel K ⟨G, H, [P1, P2], fun _ => none, fun _ => none⟩ G (hide (hide H P1) P2) (start N vs) (e0 a)) (hd : ∀ b, dn = some b → ∀ F G H, rr.rel K F G H .non b H) (h : spDT2 K P1 z1 P2 z2 ra rr (fun a => (mb (e0 a)).run dn) vs H Q E) :
    t { nx := fun _ H' => Q .non H', rt := Q } (start N vs) H := by
  obtain ⟨G, a, s, tb1, tb2, hr, p⟩ := h
  have p : PostD K cx0 ⟨G, H, [P1, P2], fun _ => none, fun _ => none⟩ rr Q E ((mb (e0 a)).run dn) := p
  refine hs ⟨G, H, [P1, P2], fun _ => none, fun _ => none⟩ G H _ (e0 a) (.start s) ⟨tb1, ⟨by simp, rfl, rfl⟩, tb2, ⟨by simp, rfl, rfl⟩, h0 G H vs a s.1 hr⟩ _ ?_
  cases k : mb (e0 a) with
  | rt b e =>
    rw [k] at p
    exact fun v σ' G' H' H1 i _ hv hR => p v G' H' H1 i hv
  | nx e =>
    rw [k] at p
    cases dn with
    | none => exact False.elim p
    | some b => exact fun σ' G' H' i _ hR => p .non G' H' H' i (hd b rfl _ _ _)
  | ex c e => rw [k] at p; exact False.elim p
  | bk e => rw [k] at p; exact False.elim p
  | ct e => rw [k] at p; exact False.elim p
  | bad => rw [k] at p; exact False.elim p
theorem lawT_go2 {H : Hp} {a P1 P2 : Addr} {q1 q2 : Str} {ns : List Int} {f : List Int → Rs Unit Bool} {E : XK} (hf : Fz K H a (ns.map V.int)) (hP1 : H P1 = some (.tbl #[])) (hP2 : H P2 = some (.tbl #[])) (ht : ∀ b xs, H b ≠ some (.tup xs)) (hn1 : P1 ≠ a) (hn2 : P2 ≠ a) (h12 : P1 ≠ P2) (h : RsP (f ns) fun b _ => b = true) :
    spDT2 K P1 q1 P2 q2 (aOne (ir rScr)) (fz rB) f [.ref a] H (fun v _ => v = .bl true) E := by
  have nil : ∀ (q : Str) (G : Hp), ∀ pos cv, codeAmong pos (#[] : Array Value).toList = some cv → ∃ c, cv = .ref c ∧ G c = some (CodeO c q) := fun q G pos cv hc => by
    have z : codeAmong pos [] = some cv := hc
    simp [codeAmong] at z
  refine ⟨hide (hide H P1) P2, ns, ⟨hide_sub.trans hide_sub, fun b xs z => absurd z (ht b xs)⟩, ⟨#[], hP1, by rw [hide_ne h12]; exact hide_same, True.intro, nil _ _⟩, ⟨#[], by rw [hide_ne h12.symm]; exact hP2, hide_same, True.intro, nil _ _⟩, ⟨_, rfl, a, rfl, ?_⟩, ?_⟩
  · rcases hf with ⟨o, h⟩ | h
    · exact .inl ⟨o, by rw [hide_ne hn2.symm, hide_ne hn1.symm]; exact h⟩
    · exact .inr h
  · obtain ⟨b, u, e, rfl⟩ := h.ex
    rw [e]
    exact fun v G' H' H1 i hr => hr.1
end
open PySem.W (tabObj)
theorem endTS {P : Program} {w : World} {K : PySem.W.Frag} {mg mb : Str → Option Value} {k : Nat} {fa a : Addr} {cs : List (Addr × Addr)} {fd : FuncData} {x : Str} {sp : Sp} {s₁ : Shared} {vs : List Value} {H : Hp}
    (KX : K.In s₁.heap) (hns : s₁.heap.Ns mainGlobals mg) (hb : s₁.heap.Ns builtinsNs mb) (hbb : ∀ x : Str, x ≠ "__name__" → mb x = bootBuiltins x) (hlim : s₁.heap.NoLimit) (hg : s₁.gens = #[]) (hsm : SMod s₁.heap)
    (hbm : ∃ (bm : Addr) (ob : Obj), mg "__builtins__" = some (.ref bm) ∧ bm ≠ builtinsNs ∧ s₁.heap.get? bm = some ob ∧ ob.cls = .type "module" ∧ ob.dict = some builtinsNs ∧ ob.data = .plain)
    (hC : ∀ p ∈ cs, PySem.W.CodeHd s₁.heap p.1 p.2 ∧ s₁.heap.get? p.2 = some (tabObj #[]) ∧ K.lookup p.2 = none)
    (ha : s₁.heap.get? a = some { cls := .type "list", data := .seq vs.toArray }) (hr : Room k callerA)
    (F : ∀ base : Heap, K.In base → base.Ns mainGlobals mg → SMod base → (∀ p ∈ cs, LamX.TabB base mg p.1 p.2) → FnG P w K mg base k fa fd [x] sp) (hbind : ∀ (s : Shared) (u : Value), BindsTo s fd ⟨[u], []⟩ [(x, u)])
    (hsp : sp [.ref a] H (fun v _ => v = .bl true) fun _ _ _ => False) (hok : HOk P w H s₁.heap)
    (hH : ∀ b u, H b = some u → (b = a ∧ K.lookup a = none ∧ ∃ o v, u = .frz o v) ∨ (∃ p ∈ cs, b = p.2 ∧ u = .tbl #[])) :
    codeAny (model P w) callerA (.call (.ref fa) ⟨[.ref a], []⟩) (fun r s' => r = .ok (.ret (.bool true)) ∧ OldK s₁.heap s'.heap ∧ s'.os = s₁.os ∧ AllBare s'.gens) s₁ := by
  have free : ∀ {b : Addr} {o : Obj}, s₁.heap.get? b = some o → (∀ xs n, o.data ≠ .seq xs n) → o.data ≠ .fields #[] → H b = none := fun {b o} e d d' => by
    cases q : H b with
    | none => rfl
    | some u =>
      rcases hH b u q with ⟨rfl, _⟩ | ⟨p, hp, rfl, _⟩
      · rw [ha] at e
        cases e
        exact absurd rfl (d _ _)
      · rw [(hC p hp).2.1] at e
        cases e
        exact absurd rfl d'
  have ns : ∀ {b : Addr} {m : Str → Option Value}, s₁.heap.Ns b m → (hidT s₁.heap H).Ns b m := fun {b m} z => by
    obtain ⟨o, es, ep, e, d, r⟩ := z
    exact ⟨o, es, ep, hidT_get e (free e (fun _ _ z => by rw [d] at z; cases z) fun z => by rw [d] at z; cases z), d, r⟩
  have kin : K.In (hidT s₁.heap H) := fun b o e => hidT_get (KX b o e) (by
    cases q : H b with
    | none => rfl
    | some u =>
      rcases hH b u q with ⟨rfl, h2, _⟩ | ⟨p, hp, rfl, _⟩
      · rw [h2] at e; cases e
      · rw [(hC p hp).2.2] at e; cases e)
  have lim : (hidT s₁.heap H).NoLimit := by
    obtain ⟨mc, h1, h2⟩ := hlim
    exact ⟨mc, ns h1, h2⟩
  have sm : SMod (hidT s₁.heap H) := by
    obtain ⟨mm, h1⟩ := hsm
    exact ⟨mm, ns h1⟩
  have tb : ∀ p ∈ cs, LamX.TabB (hidT s₁.heap H) mg p.1 p.2 := fun p hp => by
    obtain ⟨C, T, _⟩ := hC p hp
    refine ⟨?_, ?_, fun z => ?_⟩
    · obtain ⟨o, us, file, tf, flags, tg, inF, text, tt, e1, r1, r2, r3, rest⟩ := C
      refine ⟨o, us, file, tf, flags, tg, inF, text, tt, hidT_get e1 (free e1 (fun vs n z => ?_) fun z => ?_), r1, r2, r3, rest⟩
      · rw [r2] at z; cases z
      · rw [r2] at z; cases z; simp at r3
    · obtain ⟨bm, ob, b1, b2, b3, b4, b5, b6⟩ := hbm
      refine ⟨bm, ob, b1, b2, fun q => ?_, fun q => ?_, hidT_get b3 (free b3 (fun vs n z => ?_) fun z => ?_), b4, b5, b6⟩
      · obtain ⟨o, es, ep, e, hd, _⟩ := hns
        rw [q, e] at b3; cases b3
        rw [hd] at b6; cases b6
      · rw [q, T] at b3; cases b3; cases b6
      · rw [b6] at z; cases z
      · rw [b6] at z; cases z
    · obtain ⟨o, es, ep, e, hd, _⟩ := hns
      rw [z, T] at e; cases e; cases hd
  have e0 : Env0 P w K mg (hidT s₁.heap H) callerA [] s₁ H := ⟨rfl, ⟨kin, ns hns, ⟨mb, ns hb, hbb⟩, lim⟩, fun b o e => of_hidT e, Nat.le_of_eq (hidT_size _ _), trivial, fun b z => (List.not_mem_nil (show b ∈ ([] : List Addr) from z)).elim, hok, .of_eq hg⟩
  refine codeAny_mono ((F _ kin (ns hns) sm tb).run callerA [] s₁ H ⟨[.ref a], []⟩ [.ref a] [.ref a] _ _ rfl hr e0 (hbind s₁ (.ref a)) (.cons rfl .nil) hsp) fun r s' h => ?_
  match r, h with
  | .error _, z => exact False.elim z
  | .ok .next, z => exact False.elim z
  | .ok .brk, z => exact False.elim z
  | .ok .cont, z => exact False.elim z
  | .ok (.ret u), ⟨v, H', os, bare, un, hok', rv, q⟩ =>
    obtain rfl : v = .bl true := q
    obtain rfl : u = Value.bool true := rv
    have key : ∀ b o, s₁.heap.get? b = some o → (s'.heap.get? b = some o) ∨ ∃ p ∈ cs, b = p.2 ∧ o = tabObj #[] ∧ ∃ more : Array Value, s'.heap.get? b = some (tabObj more) := fun b o e => by
      cases q : H b with
      | none => exact .inl (un.keep b o e q (fun z => (List.not_mem_nil (show b ∈ ([] : List Addr) from z)).elim) (fun z => (List.not_mem_nil z).elim))
      | some u =>
        rcases hH b u q with ⟨_, _, ob, u', rfl⟩ | ⟨p, hp, rfl, rfl⟩
        · have e1 := (hok b _ q).1
          have e2 := (hok' b _ (un.frzs b ob u' q)).1
          rw [e] at e1
          cases e1
          exact .inl e2
        · obtain ⟨more, z⟩ := un.tbls _ _ q
          have T := (hC p hp).2.1
          rw [e] at T
          cases T
          exact .inr ⟨p, hp, rfl, rfl, #[] ++ more, hok' _ _ z⟩
    refine ⟨rfl, ⟨fun b o e => ?_, fun b o e => ?_⟩, os, bare⟩
    · rcases key b o e with z | ⟨p, hp, rfl, rfl, more, z⟩
      · exact .inl z
      · exact .inr (.inl ⟨((hC p hp).1.tab e).isCodeTable, rfl, #[], more, rfl, by rw [Array.empty_append]; exact z⟩)
    · rcases key b o e with z | ⟨p, hp, rfl, rfl, more, z⟩
      · exact ⟨o, z⟩
      · exact ⟨_, z⟩
theorem walkTS {l : PySem.W.OpenLaw} {n k : Nat} {q : Program} {loose : List Str} {XP : (Str → Option Value) → Heap → Prop} {YP : World → Heap → Prop} {d : DefRec} {K : Params → PySem.W.Frag} {x : Str}
    (hn : l.most = some n) (hn2 : n ≤ sizeLine) (hdf : d.params.defaults = []) (hr : Room k callerA) (hi : importsNone q = true)
    (hY : ∀ (w : World) (h : Heap), YP w h → (K w.params).In h)
    (F : ∀ (w : World) (mg : Str → Option Value) (fa : Addr) (h : Heap), (K w.params).In h → h.Ns mainGlobals mg → mg d.name = some (.ref fa) →
      ∃ (fd : FuncData) (cs : List (Str × Addr × Addr)) (sp : Sp), (∀ p ∈ cs, ((recsOf q).any fun e => e.name == p.1) = true ∧ PySem.W.tabIn (K w.params) p.1 = some p.2 ∧ (K w.params).lookup p.2.2 = none) ∧ (∀ (s : Shared) (u : Value), BindsTo s fd ⟨[u], []⟩ [(x, u)]) ∧
        (∀ base : Heap, (K w.params).In base → base.Ns mainGlobals mg → SMod base → (∀ p ∈ cs, LamX.TabB base mg p.2.1 p.2.2) → FnG l.prog w (K w.params) mg base k fa fd [x] sp) ∧
        ∀ (H : Hp) (a : Addr) (ns : List Int), ns.length ≤ n → Fz (K w.params) H a (ns.map V.int) → (∀ p ∈ cs, H p.2.2 = some (.tbl #[])) → (∀ b xs, H b ≠ some (.tup xs)) → (∀ p ∈ cs, p.2.2 ≠ a) → sp [.ref a] H (fun v _ => v = .bl true) fun _ _ _ => False) :
    PySem.W.WalkO q loose XP YP l.row.toRowW d [] (fun f vs => PySem.call f vs) := by
  refine Att.attach_call hn hdf fun w s₀ s₁ mg mb fa o pm cd doc a vs ns G Y ho hd hcd hmg hobj hints hlen hg => ?_
  have KX := hY w _ Y
  obtain ⟨fd, cs, sp, hcs, hb, hF, hsp⟩ := F w mg fa _ KX G.T.g hmg
  have hl : ns.length ≤ sizeLine := Nat.le_trans hlen hn2
  have rv := vals_ints hints
  have sm : SMod s₁.heap := let ⟨mm, h, _⟩ := (G.T.seer hi).mods; ⟨mm, h⟩
  have hC : ∀ p ∈ cs.map (·.2), PySem.W.CodeHd s₁.heap p.1 p.2 ∧ s₁.heap.get? p.2 = some (tabObj #[]) ∧ (K w.params).lookup p.2 = none := fun p hp => by
    obtain ⟨z, hz, rfl⟩ := List.mem_map.mp hp
    obtain ⟨h1, h2, h3⟩ := hcs z hz
    obtain ⟨dd, hf⟩ : ∃ dd, (recsOf q).find? (fun e => e.name == z.1) = some dd := by
      cases e : (recsOf q).find? (fun e => e.name == z.1) with
      | some dd => exact ⟨dd, rfl⟩
      | none =>
        obtain ⟨y, y1, y2⟩ := List.any_eq_true.mp h1
        exact absurd y2 (by simpa using List.find?_eq_none.mp e y y1)
    obtain ⟨g1, g2⟩ := PySem.W.tab_of G.T KX hf h2
    exact ⟨g1, g2, h3⟩
  have na : ∀ p ∈ cs, p.2.2 ≠ a := fun p hp z => by
    have := (hC p.2 (List.mem_map.mpr ⟨p, hp, rfl⟩)).2.1
    rw [z, hobj] at this
    cases this
  have hF' : ∀ base : Heap, (K w.params).In base → base.Ns mainGlobals mg → SMod base → (∀ p ∈ cs.map (·.2), LamX.TabB base mg p.1 p.2) → FnG l.prog w (K w.params) mg base k fa fd [x] sp := fun base h1 h2 h0 h3 => hF base h1 h2 h0 fun p hp => h3 p.2 (List.mem_map.mpr ⟨p, hp, rfl⟩)
  cases hk : (K w.params).lookup a with
  | some o =>
    have e := KX a o hk
    rw [hobj] at e
    cases e
    have one : ∀ b u, (fun b => if b ∈ cs.map (·.2.2) then some (HO.tbl #[]) else none) b = some u → b ∈ cs.map (·.2.2) ∧ u = HO.tbl #[] := fun b u z => by
      by_cases hb : b ∈ cs.map (·.2.2)
      · exact ⟨hb, (Option.some.inj ((if_pos hb).symm.trans z)).symm⟩
      · exact nomatch ((if_neg hb).symm.trans z)
    refine endTS (cs := cs.map (·.2)) (H := fun b => if b ∈ cs.map (·.2.2) then some (.tbl #[]) else none) KX G.T.g G.T.b G.T.builtins G.T.nolimit hg sm G.T.bmain hC hobj hr hF' hb (hsp _ a ns hlen ?_ (fun p hp => if_pos (List.mem_map.mpr ⟨p, hp, rfl⟩)) (fun b xs z => ?_) na) (fun b u z => ?_) fun b u z => ?_
    · exact .inr fun _ => .inr ⟨_, vs.toArray, _, hk, rfl, rfl, rfl, by rw [List.size_toArray, hints.length]; exact hl, by simpa using rv⟩
    · exact nomatch (one b _ z).2
    · obtain ⟨hb, rfl⟩ := one b u z
      obtain ⟨p, hp, rfl⟩ := List.mem_map.mp hb
      exact (hC p.2 (List.mem_map.mpr ⟨p, hp, rfl⟩)).2.1
    · obtain ⟨hb, rfl⟩ := one b u z
      obtain ⟨p, hp, rfl⟩ := List.mem_map.mp hb
      exact .inr ⟨p.2, List.mem_map.mpr ⟨p, hp, rfl⟩, rfl, rfl⟩
  | none =>
    have one : ∀ b u, (fun b => if b = a then some (HO.frz { cls := .type "list", data := .seq vs.toArray } (.lst (ns.map V.int))) else if b ∈ cs.map (·.2.2) then some (HO.tbl #[]) else none) b = some u →
        (b = a ∧ u = HO.frz { cls := .type "list", data := .seq vs.toArray } (.lst (ns.map V.int))) ∨ (b ∈ cs.map (·.2.2) ∧ u = HO.tbl #[]) := fun b u z => by
      by_cases hb : b = a
      · exact .inl ⟨hb, (Option.some.inj ((if_pos hb).symm.trans z)).symm⟩
      · have z := (if_neg hb).symm.trans z
        by_cases hc : b ∈ cs.map (·.2.2)
        · exact .inr ⟨hc, (Option.some.inj ((if_pos hc).symm.trans z)).symm⟩
        · exact nomatch ((if_neg hc).symm.trans z)
    refine endTS (cs := cs.map (·.2)) (H := fun b => if b = a then some (HO.frz { cls := .type "list", data := .seq vs.toArray } (.lst (ns.map V.int))) else if b ∈ cs.map (·.2.2) then some (HO.tbl #[]) else none) KX G.T.g G.T.b G.T.builtins G.T.nolimit hg sm G.T.bmain hC hobj hr hF' hb
      (hsp _ a ns hlen (.inl ⟨_, if_pos rfl⟩) (fun p hp => ?_) (fun b xs z => ?_) na) (fun b u z => ?_) fun b u z => ?_
    · exact (if_neg (na p hp)).trans (if_pos (List.mem_map.mpr ⟨p, hp, rfl⟩))
    · rcases one b _ z with ⟨_, z⟩ | ⟨_, z⟩
      · exact nomatch z
      · exact nomatch z
    · rcases one b u z with ⟨rfl, rfl⟩ | ⟨hb, rfl⟩
      · exact ⟨hobj, by rw [List.length_map]; exact hl, vs, _, rv, hobj⟩
      · obtain ⟨p, hp, rfl⟩ := List.mem_map.mp hb
        exact (hC p.2 (List.mem_map.mpr ⟨p, hp, rfl⟩)).2.1
    · rcases one b u z with ⟨rfl, rfl⟩ | ⟨hb, rfl⟩
      · exact .inl ⟨rfl, hk, _, _, rfl⟩
      · obtain ⟨p, hp, rfl⟩ := List.mem_map.mp hb
        exact .inr ⟨p.2, List.mem_map.mpr ⟨p, hp, rfl⟩, rfl, rfl⟩
theorem lawT_end2 {l : PySem.W.OpenLaw} {w : World} {K : PySem.W.Frag} {mg : Str → Option Value} {fa : Addr} {x : Str} {k n : Nat} {q : Program} {sp : Addr → Addr → Sp} (m1 m2 : Str)
    (h : ∀ c1 P1 c2 P2, PySem.W.tabIn K m1 = some (c1, P1) → PySem.W.tabIn K m2 = some (c2, P2) → ∃ fd : FuncData, (∀ (s : Shared) (u : Value), BindsTo s fd ⟨[u], []⟩ [(x, u)]) ∧
      ∀ base : Heap, K.In base → base.Ns mainGlobals mg → SMod base → LamX.TabB base mg c1 P1 → LamX.TabB base mg c2 P2 → FnG l.prog w K mg base k fa fd [x] (sp P1 P2))
    (tr : ((recsOf q).any fun e => e.name == m1) = true) (tr2 : ((recsOf q).any fun e => e.name == m2) = true)
    (tb : (match PySem.W.tabIn K m1, PySem.W.tabIn K m2 with | some p, some q => (K.lookup p.2).isNone && (K.lookup q.2).isNone && !(p.2 == q.2) | _, _ => false) = true)
    (go : ∀ (H : Hp) (a : Addr) (ns : List Int) (P1 P2 : Addr), Fz K H a (ns.map V.int) → H P1 = some (.tbl #[]) → H P2 = some (.tbl #[]) → (∀ b xs, H b ≠ some (.tup xs)) → P1 ≠ a → P2 ≠ a → P1 ≠ P2 → sp P1 P2 [.ref a] H (fun v _ => v = .bl true) fun _ _ _ => False) :
    ∃ (fd : FuncData) (cs : List (Str × Addr × Addr)) (sp : Sp), (∀ p ∈ cs, ((recsOf q).any fun e => e.name == p.1) = true ∧ PySem.W.tabIn K p.1 = some p.2 ∧ K.lookup p.2.2 = none) ∧ (∀ (s : Shared) (u : Value), BindsTo s fd ⟨[u], []⟩ [(x, u)]) ∧
        (∀ base : Heap, K.In base → base.Ns mainGlobals mg → SMod base → (∀ p ∈ cs, LamX.TabB base mg p.2.1 p.2.2) → FnG l.prog w K mg base k fa fd [x] sp) ∧
        ∀ (H : Hp) (a : Addr) (ns : List Int), ns.length ≤ n → Fz K H a (ns.map V.int) → (∀ p ∈ cs, H p.2.2 = some (.tbl #[])) → (∀ b xs, H b ≠ some (.tup xs)) → (∀ p ∈ cs, p.2.2 ≠ a) → sp [.ref a] H (fun v _ => v = .bl true) fun _ _ _ => False := by
  cases e1 : PySem.W.tabIn K m1 with
  | none => rw [e1] at tb; cases tb
  | some p =>
    cases e2 : PySem.W.tabIn K m2 with
    | none => rw [e1, e2] at tb; cases tb
    | some q2 =>
      obtain ⟨c1, P1⟩ := p
      obtain ⟨c2, P2⟩ := q2
      rw [e1, e2] at tb
      have tb : ((K.lookup P1).isNone && (K.lookup P2).isNone && !(P1 == P2)) = true := tb
      rw [Bool.and_eq_true, Bool.and_eq_true] at tb
      obtain ⟨⟨t1, t2⟩, t3⟩ := tb
      have t3 : P1 ≠ P2 := fun z => by subst z; simp at t3
      obtain ⟨fd, h1, h2⟩ := h c1 P1 c2 P2 e1 e2
      refine ⟨fd, [(m1, c1, P1), (m2, c2, P2)], sp P1 P2, fun p hp => ?_, h1, fun base k1 k2 k0 k3 => h2 base k1 k2 k0 (k3 _ List.mem_cons_self) (k3 _ (List.mem_cons_of_mem _ List.mem_cons_self)),
        fun H a ns _ k1 k2 k3 k4 => go H a ns P1 P2 k1 (k2 _ List.mem_cons_self) (k2 _ (List.mem_cons_of_mem _ List.mem_cons_self)) k3 (k4 _ List.mem_cons_self) (k4 _ (List.mem_cons_of_mem _ List.mem_cons_self)) t3⟩
      rcases List.mem_cons.mp hp with rfl | hp
      · exact ⟨tr, e1, Option.isNone_iff_eq_none.mp t1⟩
      · obtain rfl := List.mem_singleton.mp hp
        exact ⟨tr2, e2, Option.isNone_iff_eq_none.mp t2⟩
/-- all choices of the first k -/
def subs (ns : List Int) : Nat → List (List Int)
  | 0 => [[]]
  | k + 1 => subs ns k ++ (subs ns k).map (· ++ [ns.getD k 0])
/-- how many choices of k out of n, row by row -/
def C : Nat → Nat → Nat
  | _, 0 => 1
  | 0, _ + 1 => 0
  | n + 1, k + 1 => C n k + C n (k + 1)
/-- a term of the sum -/
def tm (sg : Int) (xs : List Int) (k i : Nat) : Int := xs.getD i 0 * (C (xs.length - 1 - i) (k - i) : Int) * (if (k - i) % 2 = 0 then 1 else sg)
/-- the sum of the first m terms -/
def sm (sg : Int) (xs : List Int) (k : Nat) : Nat → Int
  | 0 => 0
  | m + 1 => sm sg xs k m + tm sg xs k m
/-- what the dict holds behind some faces of a piece -/
def grown (ks S : List (List Int)) : List (List Int) := ks ++ S.filter fun f => !decide (f ∈ ks)
/-- all faces of the pieces, each once -/
def KS (ps : List (List Int)) (ks : List (List Int)) : Prop := ks.Nodup ∧ ∀ f, f ∈ ks ↔ ∃ p ∈ ps, f ∈ subs p p.length
theorem KS.perm {ps ks ks' : List (List Int)} (h : KS ps ks) (h' : KS ps ks') : ks.Perm ks' := (List.perm_ext_iff_of_nodup h.1 h'.1).mpr fun f => (h.2 f).trans (h'.2 f).symm
/-- a piece more: its faces, in whatever order, put behind -/
theorem KS.next {ps ks S : List (List Int)} {p : List Int} (h : KS ps ks) (hS : S.Nodup) (hm : ∀ f, f ∈ S ↔ f ∈ subs p p.length) : KS (ps ++ [p]) (grown ks S) := by
  refine ⟨?_, fun f => ?_⟩
  · unfold grown
    rw [List.nodup_append]
    refine ⟨h.1, hS.sublist List.filter_sublist, fun a ha b hb => ?_⟩
    rintro rfl
    have := (List.mem_filter.mp hb).2
    simp [ha] at this
  · unfold grown
    rw [List.mem_append, List.mem_filter]
    constructor
    · rintro (z | ⟨z, _⟩)
      · obtain ⟨q, hq, z⟩ := (h.2 f).mp z
        exact ⟨q, List.mem_append_left _ hq, z⟩
      · exact ⟨p, List.mem_append_right _ (List.mem_singleton_self _), (hm f).mp z⟩
    · rintro ⟨q, hq, z⟩
      rcases List.mem_append.mp hq with hq | hq
      · exact .inl ((h.2 f).mpr ⟨q, hq, z⟩)
      · rw [List.mem_singleton.mp hq] at z
        by_cases hk : f ∈ ks
        · exact .inl hk
        · exact .inr ⟨(hm f).mpr z, by simpa using hk⟩
/-- Horner -/
def hn (xs : List Int) (x : Int) : Int := xs.foldl (fun t n => t * x + n) 0
abbrev xNs : List Str := ["NoPiece"]
abbrev xCs : List Str := ["NoShape", "NoFace", "NoPiece", "NoCorner", "NotClosed", "TooMany", "NoOrder", "NoWish", "NoFit", "NoShrink", "NoText", "NoRow", "NoName"]
abbrev E_is_from : Type := Option Th × Option Int × Option Int × Unit
def R_is_from : ERep E_is_from := (eFr rTh (eFr rI (eFr rI eNil)))
abbrev l_is_from_0 : Ln E_is_from Th := Ln.z
theorem a_is_from_0 : FrAt R_is_from 0 rTh l_is_from_0 := FrAt.z
abbrev l_is_from_1 : Ln E_is_from Int := (Ln.s Ln.z)
theorem a_is_from_1 : FrAt R_is_from 1 rI l_is_from_1 := (FrAt.sF FrAt.z)
abbrev l_is_from_2 : Ln E_is_from Int := (Ln.s (Ln.s Ln.z))
theorem a_is_from_2 : FrAt R_is_from 2 rI l_is_from_2 := (FrAt.sF (FrAt.sF FrAt.z))
def M_is_from : E_is_from → So E_is_from Bool :=
    (mRet (mAnd (mUn (gIsTh "int") (mPair (mVar l_is_from_0) (mC ()))) (mAnd (mNot (mUn (gIsTh "bool") (mPair (mVar l_is_from_0) (mC ())))) (mChain gLe gLe (mVar l_is_from_1) (mUn asI (mVar l_is_from_0)) (mVar l_is_from_2)))))
def m_is_from (x0 : Th) (x1 : Int) (x2 : Int) : Rs Unit Bool := (M_is_from (some x0, some x1, some x2, ())).run none
abbrev u_is_from (p : Th × Int × Int) : Rs Unit Bool := m_is_from (p.1) (p.2.1) (p.2.2)
def sp_is_from (K : PySem.W.Frag) : Sp := spD K cx0 (aCons (ir rTh) (aCons (ir rI) (aOne (ir rI)))) (fz rB) u_is_from
theorem len_is_from (K : PySem.W.Frag) : ∀ vs H Q E, sp_is_from K vs H Q E → vs.length = 3 := len_D (ALen.cons (ALen.cons ALen.one))
def t_is_from (K : PySem.W.Frag) : TS :=
    (tRet (tAndV (tCB (rIsi K) (tCons (tVar 0) (tCons (tC (.ty "int")) tNil))) (tAndV (tNotV (tCB (rIsi K) (tCons (tVar 0) (tCons (tC (.ty "bool")) tNil)))) (tChain rLe rLe (tVar 1) (tVar 0) (tVar 2)))))
theorem sx_is_from {K : PySem.W.Frag} : SX ⟨K, E0, cx0⟩ R_is_from (fz rB) (t_is_from K) M_is_from :=
    (s_ret (x_andV (x_tCB (v_isTh k_int) (x_acons Cv.id (x_var a_is_from_0) (x_aone (x_is Cv.id (x_c (r := rTy "int") (a := ()) fun _ => rfl))))) (x_andV (x_notV (x_tCB (v_isTh k_bool) (x_acons Cv.id (x_var a_is_from_0) (x_aone (x_is Cv.id (x_c (r := rTy "bool") (a := ()) fun _ => rfl)))))) (x_chain v_le v_le (x_var a_is_from_1) (x_cast c_asI (x_var a_is_from_0)) (x_var a_is_from_2)))))
theorem rd_is_from {K : PySem.W.Frag} {H : Hp} {vs : List V} {Q : VK} {E : XK} {N : List Str} (h : sp_is_from K vs H Q E) (hN : N.length = 3 := by rfl) : t_is_from K { nx := fun _ H' => Q .non H', rt := Q } (start N vs) H := by
  have h : spD K cx0 (aCons (ir rTh) (aCons (ir rI) (aOne (ir rI)))) (fz rB) (fun (a : Th × Int × Int) => (M_is_from (some a.1, some a.2.1, some a.2.2, ())).run none) vs H Q E := h
  refine d_D (dn := none) (ra := (aCons (ir rTh) (aCons (ir rI) (aOne (ir rI))))) (e0 := fun (a : Th × Int × Int) => (some a.1, some a.2.1, some a.2.2, ())) (sx_is_from) ?_ ?_ h
  · intro G H vs a s hr
    obtain ⟨v0, _, rfl, h0, ⟨v1, _, rfl, h1, ⟨v2, rfl, h2⟩⟩⟩ := hr
    rw [show start N [v0, v1, v2] = [some v0, some v1, some v2] by simp [L2.start, hN]]
    exact (e_fr h0 (e_fr h1 (e_fr h2 e_nil)))
  · intro b h; cases h
abbrev E_is_from_i : Type := Option Int × Option Int × Option Int × Unit
def R_is_from_i : ERep E_is_from_i := (eFr rI (eFr rI (eFr rI eNil)))
abbrev l_is_from_i_0 : Ln E_is_from_i Int := Ln.z
theorem a_is_from_i_0 : FrAt R_is_from_i 0 rI l_is_from_i_0 := FrAt.z
abbrev l_is_from_i_1 : Ln E_is_from_i Int := (Ln.s Ln.z)
theorem a_is_from_i_1 : FrAt R_is_from_i 1 rI l_is_from_i_1 := (FrAt.sF FrAt.z)
abbrev l_is_from_i_2 : Ln E_is_from_i Int := (Ln.s (Ln.s Ln.z))
theorem a_is_from_i_2 : FrAt R_is_from_i 2 rI l_is_from_i_2 := (FrAt.sF (FrAt.sF FrAt.z))
def M_is_from_i : E_is_from_i → So E_is_from_i Bool :=
    (mRet (mAnd (mUn (gIsi true) (mPair (mVar l_is_from_i_0) (mC ()))) (mAnd (mNot (mUn (gIsi false) (mPair (mVar l_is_from_i_0) (mC ())))) (mChain gLe gLe (mVar l_is_from_i_1) (mVar l_is_from_i_0) (mVar l_is_from_i_2)))))
def m_is_from_i (x0 : Int) (x1 : Int) (x2 : Int) : Rs Unit Bool := (M_is_from_i (some x0, some x1, some x2, ())).run none
abbrev u_is_from_i (p : Int × Int × Int) : Rs Unit Bool := m_is_from_i (p.1) (p.2.1) (p.2.2)
def sp_is_from_i (K : PySem.W.Frag) : Sp := spD K cx0 (aCons (ir rI) (aCons (ir rI) (aOne (ir rI)))) (fz rB) u_is_from_i
theorem len_is_from_i (K : PySem.W.Frag) : ∀ vs H Q E, sp_is_from_i K vs H Q E → vs.length = 3 := len_D (ALen.cons (ALen.cons ALen.one))
def t_is_from_i (K : PySem.W.Frag) : TS :=
    (tRet (tAndV (tCB (rIsi K) (tCons (tVar 0) (tCons (tC (.ty "int")) tNil))) (tAndV (tNotV (tCB (rIsi K) (tCons (tVar 0) (tCons (tC (.ty "bool")) tNil)))) (tChain rLe rLe (tVar 1) (tVar 0) (tVar 2)))))
theorem sx_is_from_i {K : PySem.W.Frag} : SX ⟨K, E0, cx0⟩ R_is_from_i (fz rB) (t_is_from_i K) M_is_from_i :=
    (s_ret (x_andV (x_tCB (v_isi kd_I (fun _ => kit_ty (by decide +kernel))) (x_acons Cv.id (x_var a_is_from_i_0) (x_aone (x_is Cv.id (x_c (r := rTy "int") (a := ()) fun _ => rfl))))) (x_andV (x_notV (x_tCB (v_isi kd_I (fun _ => kit_ty (by decide +kernel))) (x_acons Cv.id (x_var a_is_from_i_0) (x_aone (x_is Cv.id (x_c (r := rTy "bool") (a := ()) fun _ => rfl)))))) (x_chain v_le v_le (x_var a_is_from_i_1) (x_var a_is_from_i_0) (x_var a_is_from_i_2)))))
theorem rd_is_from_i {K : PySem.W.Frag} {H : Hp} {vs : List V} {Q : VK} {E : XK} {N : List Str} (h : sp_is_from_i K vs H Q E) (hN : N.length = 3 := by rfl) : t_is_from_i K { nx := fun _ H' => Q .non H', rt := Q } (start N vs) H := by
  have h : spD K cx0 (aCons (ir rI) (aCons (ir rI) (aOne (ir rI)))) (fz rB) (fun (a : Int × Int × Int) => (M_is_from_i (some a.1, some a.2.1, some a.2.2, ())).run none) vs H Q E := h
  refine d_D (dn := none) (ra := (aCons (ir rI) (aCons (ir rI) (aOne (ir rI))))) (e0 := fun (a : Int × Int × Int) => (some a.1, some a.2.1, some a.2.2, ())) (sx_is_from_i) ?_ ?_ h
  · intro G H vs a s hr
    obtain ⟨v0, _, rfl, h0, ⟨v1, _, rfl, h1, ⟨v2, rfl, h2⟩⟩⟩ := hr
    rw [show start N [v0, v1, v2] = [some v0, some v1, some v2] by simp [L2.start, hN]]
    exact (e_fr h0 (e_fr h1 (e_fr h2 e_nil)))
  · intro b h; cases h
abbrev E_part : Type := Option (List (List Int)) × Option (List Th) × Option (List Int) × Option Th × Unit
def R_part : ERep E_part := (eFr (rz (oT (rz (oT rI)))) (eFr (rz (oL rTh)) (eOw (oL rI) (eFr rTh eNil))))
abbrev l_part_0 : Ln E_part (List (List Int)) := Ln.z
theorem a_part_0 : FrAt R_part 0 (rz (oT (rz (oT rI)))) l_part_0 := FrAt.z
abbrev l_part_1 : Ln E_part (List Th) := (Ln.s Ln.z)
theorem a_part_1 : FrAt R_part 1 (rz (oL rTh)) l_part_1 := (FrAt.sF FrAt.z)
abbrev l_part_2 : Ln E_part (List Int) := (Ln.s (Ln.s Ln.z))
theorem a_part_2 : OwAt R_part 2 ownN (oL rI) l_part_2 := (OwAt.sF (OwAt.sF OwAt.z))
abbrev l_part_3 : Ln E_part Th := (Ln.s (Ln.s (Ln.s Ln.z)))
theorem a_part_3 : FrAt R_part 3 rTh l_part_3 := (FrAt.sF (FrAt.sF (FrAt.sO FrAt.z)))
def M_part : E_part → So E_part (List (List Int)) :=
    (mSeq (mIfS (mOp gEqN (mVar l_part_1) (mUn szOk (mC ([] : List Th)))) (mRaise "NoPiece") mNext)
    (mSeq (mSet l_part_2 (mUn szOk (mC ([] : List Int))))
    (mSeq (mKill (fun e => (Ln.put l_part_3 none e)) (mFor (mVar l_part_1) (pN l_part_3)
    (mKill (fun e => (Ln.put l_part_3 none e)) (mSeq (mIfS (mOr (mNot (mCall (fun p => m_is_from (p.1) (p.2.1) (p.2.2)) (mPair (mVar l_part_3) (mPair (mC (0 : Int)) (mOp gSubI (mUn gLen (mVar l_part_0)) (mC (1 : Int))))))) (mOp gIn (mUn asI (mVar l_part_3)) (mVar l_part_2))) (mRaise "NoPiece") mNext)
    (mDrop (mBM l_part_2 gApp (mUn asI (mVar l_part_3))))))))
    (mRet (mUn gId (mLc (mVar l_part_1) (pN l_part_3) mYes (mOp gIx (mVar l_part_0) (mUn asI (mVar l_part_3))) (fun e => Ln.put l_part_3 none (id e)) (fun e e1 => (fun _ e1 => e1) e (Ln.put l_part_3 (Ln.get l_part_3 (id e)) e1))))))))
def m_part (x0 : (List (List Int))) (x1 : (List Th)) : Rs Unit (List (List Int)) := (M_part (some x0, some x1, none, none, ())).run none
abbrev u_part (p : (List (List Int)) × (List Th)) : Rs Unit (List (List Int)) := m_part (p.1) (p.2)
def sp_part (K : PySem.W.Frag) (cx : Str → Addr) : Sp := spX K cx (aCons (ir (rz (oT (rz (oT rI))))) (aOne (ir (rz (oL rTh))))) (fz (rz (oT (rz (oT rI))))) u_part
theorem len_part (K : PySem.W.Frag) (cx : Str → Addr) : ∀ vs H Q E, sp_part K cx vs H Q E → vs.length = 2 := len_X (ALen.cons ALen.one)
def t_part (K : PySem.W.Frag) (cx : Str → Addr) (E : XK) : TS :=
    (tSeq (tIfS (tTest (tOp (rEqN K) (tVar 1) (tLst tNil))) (tRz E (cx "NoPiece")) tNext)
    (tSeq (tAsg (tLst tNil) (gName 2))
    (tSeq (tFor (iList K (tVar 1)) (gName 3)
    (tSeq (tIfS (tOr (tNot (tB (tCall (sp_is_from K) [] E0 (tCons (tVar 3) (tCons (tC (.int 0)) (tCons (tOp rSub (tCB (rLenL K) (tCons (tVar 0) tNil)) (tC (.int 1))) tNil)))))) (tTest (tOp (rIn K false) (tVar 3) (tVar 2)))) (tRz E (cx "NoPiece")) tNext)
    (tDrop (tBM K "list" rAppend (tVar 2) (tCons (tVar 3) tNil)))))
    (tRet (tCB (rTupOf K) (tCons (tLc (iList K (tVar 1)) (gName 3) tYes (tOp (rIxT K) (tVar 0) (tVar 3)) [3]) tNil))))))
theorem sx_part {K : PySem.W.Frag} {cx : Str → Addr} {E : XK} : SX ⟨K, E, cx⟩ R_part (fz (rz (oT (rz (oT rI))))) (t_part K cx E) M_part :=
    (s_seq (s_if (x_test (x_tOp v_eqN Cv.ob (x_var a_part_1) (x_is Cv.ob (x_fz (x_lst (x_lnil (r := rTh))))))) s_rz s_next)
    (s_seq (s_setO a_part_2 (x_lst (x_lnil (r := rI))))
    (s_seq (s_kill (Kl.fr a_part_3) (s_for (vs := [3]) (x_iL (x_var a_part_1)) (n_name a_part_3 (by decide))
    (s_kill (Kl.fr a_part_3) (s_seq (s_if (x_or (x_not (x_tB (x_callN (x_acons Cv.id (x_var a_part_3) (x_acons Cv.id (x_c fun _ => rfl) (x_aone (x_is Cv.id (x_tOp v_sub Cv.id (x_tCB v_lenT (x_aone (x_is Cv.ob (x_var a_part_0)))) (x_is Cv.id (x_c fun _ => rfl)))))))))) (x_test (x_tOp v_inLI Cv.id (x_cast c_asI (x_var a_part_3)) (x_varL (Late.ow a_part_2))))) s_rz s_next)
    (s_drop (x_bm v_app ty_L nt_L ownN_q a_part_2 (x_gone (x_cast c_asI (x_var a_part_3)))))))))
    (s_ret (x_tCB v_tupOfL (x_aone (x_is Cv.ob (x_fz (x_lc (x_iL (x_var a_part_1)) (Wp.cons a_part_3 Wp.nil) (n_name a_part_3 (by decide)) x_yes (x_tOp v_ixT Cv.ob (x_var a_part_0) (x_is Cv.id (x_cast c_asI (x_var a_part_3)))))))))))))
theorem rd_part {K : PySem.W.Frag} {cx : Str → Addr} {H : Hp} {vs : List V} {Q : VK} {E : XK} {N : List Str} (h : sp_part K cx vs H Q E) (hN : N.length = 4 := by rfl) : t_part K cx E { nx := fun _ H' => Q .non H', rt := Q } (start N vs) H := by
  have h : spX K cx (aCons (ir (rz (oT (rz (oT rI))))) (aOne (ir (rz (oL rTh))))) (fz (rz (oT (rz (oT rI))))) (fun (a : (List (List Int)) × (List Th)) => (M_part (some a.1, some a.2, none, none, ())).run none) vs H Q E := h
  refine d_X (dn := none) (ra := (aCons (ir (rz (oT (rz (oT rI))))) (aOne (ir (rz (oL rTh)))))) (e0 := fun (a : (List (List Int)) × (List Th)) => (some a.1, some a.2, none, none, ())) (sx_part) ?_ ?_ h
  · intro G H vs a s hr
    obtain ⟨v0, _, rfl, h0, ⟨v1, rfl, h1⟩⟩ := hr
    rw [show start N [v0, v1] = [some v0, some v1, none, none] by simp [L2.start, hN]]
    exact (e_fr h0 (e_fr h1 (e_owN (e_frN e_nil))))
  · intro b h; cases h
abbrev E_part_i : Type := Option (List (List Int)) × Option (List Int) × Option (List Int) × Option Int × Unit
def R_part_i : ERep E_part_i := (eFr (rz (oT (rz (oT rI)))) (eFr (rz (oL rI)) (eOw (oL rI) (eFr rI eNil))))
abbrev l_part_i_0 : Ln E_part_i (List (List Int)) := Ln.z
theorem a_part_i_0 : FrAt R_part_i 0 (rz (oT (rz (oT rI)))) l_part_i_0 := FrAt.z
abbrev l_part_i_1 : Ln E_part_i (List Int) := (Ln.s Ln.z)
theorem a_part_i_1 : FrAt R_part_i 1 (rz (oL rI)) l_part_i_1 := (FrAt.sF FrAt.z)
abbrev l_part_i_2 : Ln E_part_i (List Int) := (Ln.s (Ln.s Ln.z))
theorem a_part_i_2 : OwAt R_part_i 2 ownN (oL rI) l_part_i_2 := (OwAt.sF (OwAt.sF OwAt.z))
abbrev l_part_i_3 : Ln E_part_i Int := (Ln.s (Ln.s (Ln.s Ln.z)))
theorem a_part_i_3 : FrAt R_part_i 3 rI l_part_i_3 := (FrAt.sF (FrAt.sF (FrAt.sO FrAt.z)))
def M_part_i : E_part_i → So E_part_i (List (List Int)) :=
    (mSeq (mIfS (mOp gEq (mVar l_part_i_1) (mUn szOk (mC ([] : List Int)))) mNever mNext)
    (mSeq (mSet l_part_i_2 (mUn szOk (mC ([] : List Int))))
    (mCut (mKill (fun e => (Ln.put l_part_i_3 none e)) (mFor (mVar l_part_i_1) (pN l_part_i_3)
    (mKill (fun e => (Ln.put l_part_i_3 none e)) (mSeq (mIfB (mOr (mNot (mCall (fun p => m_is_from_i (p.1) (p.2.1) (p.2.2)) (mPair (mVar l_part_i_3) (mPair (mC (0 : Int)) (mOp gSubI (mUn gLen (mVar l_part_i_0)) (mC (1 : Int))))))) (mOp gIn (mVar l_part_i_3) (mVar l_part_i_2))) mNever mNext)
    (mDrop (mBM l_part_i_2 gApp (mVar l_part_i_3)))))))
    (mRet (mUn gId (mLc (mVar l_part_i_1) (pN l_part_i_3) mYes (mOp gIx (mVar l_part_i_0) (mVar l_part_i_3)) (fun e => Ln.put l_part_i_3 none (id e)) (fun e e1 => (fun _ e1 => e1) e (Ln.put l_part_i_3 (Ln.get l_part_i_3 (id e)) e1))))))))
def m_part_i (x0 : (List (List Int))) (x1 : (List Int)) : Rs Unit (List (List Int)) := (M_part_i (some x0, some x1, none, none, ())).run none
abbrev u_part_i (p : (List (List Int)) × (List Int)) : Rs Unit (List (List Int)) := m_part_i (p.1) (p.2)
def sp_part_i (K : PySem.W.Frag) : Sp := spD K cx0 (aCons (ir (rz (oT (rz (oT rI))))) (aOne (ir (rz (oL rI))))) (fz (rz (oT (rz (oT rI))))) u_part_i
theorem len_part_i (K : PySem.W.Frag) : ∀ vs H Q E, sp_part_i K vs H Q E → vs.length = 2 := len_D (ALen.cons ALen.one)
def t_part_i (K : PySem.W.Frag) : TS :=
    (tSeq (tIfS (tTest (tOp (rEqD K) (tVar 1) (tLst tNil))) tNever tNext)
    (tSeq (tAsg (tLst tNil) (gName 2))
    (tSeq (tFor (iList K (tVar 1)) (gName 3)
    (tSeq (tIfS (tOr (tNot (tB (tCall (sp_is_from_i K) [] E0 (tCons (tVar 3) (tCons (tC (.int 0)) (tCons (tOp rSub (tCB (rLenL K) (tCons (tVar 0) tNil)) (tC (.int 1))) tNil)))))) (tTest (tOp (rIn K false) (tVar 3) (tVar 2)))) tNever tNext)
    (tDrop (tBM K "list" rAppend (tVar 2) (tCons (tVar 3) tNil)))))
    (tRet (tCB (rTupOf K) (tCons (tLc (iList K (tVar 1)) (gName 3) tYes (tOp (rIxT K) (tVar 0) (tVar 3)) [3]) tNil))))))
theorem sx_part_i {K : PySem.W.Frag} : SX ⟨K, E0, cx0⟩ R_part_i (fz (rz (oT (rz (oT rI))))) (t_part_i K) M_part_i :=
    (s_seq (s_if (x_test (x_tOp (v_eqD (da_Lr da_I) (da_Lr da_I) (eq_L eq_I) (by decide)) Cv.ob (x_var a_part_i_1) (x_is Cv.ob (x_fz (x_lst (x_lnil (r := rI))))))) s_never s_next)
    (s_seq (s_setO a_part_i_2 (x_lst (x_lnil (r := rI))))
    (s_seqC (s_kill (Kl.fr a_part_i_3) (s_for (vs := [3]) (x_iL (x_var a_part_i_1)) (n_name a_part_i_3 (by decide))
    (s_kill (Kl.fr a_part_i_3) (s_seq (s_ifB (x_or (x_not (x_tB (x_call (x_acons Cv.id (x_var a_part_i_3) (x_acons Cv.id (x_c fun _ => rfl) (x_aone (x_is Cv.id (x_tOp v_sub Cv.id (x_tCB v_lenT (x_aone (x_is Cv.ob (x_var a_part_i_0)))) (x_is Cv.id (x_c fun _ => rfl)))))))))) (x_test (x_tOp v_inLI Cv.id (x_var a_part_i_3) (x_varL (Late.ow a_part_i_2))))) s_never s_next)
    (s_drop (x_bm v_app ty_L nt_L ownN_q a_part_i_2 (x_gone (x_var a_part_i_3))))))))
    (s_ret (x_tCB v_tupOfL (x_aone (x_is Cv.ob (x_fz (x_lc (x_iL (x_var a_part_i_1)) (Wp.cons a_part_i_3 Wp.nil) (n_name a_part_i_3 (by decide)) x_yes (x_tOp v_ixT Cv.ob (x_var a_part_i_0) (x_is Cv.id (x_var a_part_i_3))))))))))))
theorem rd_part_i {K : PySem.W.Frag} {H : Hp} {vs : List V} {Q : VK} {E : XK} {N : List Str} (h : sp_part_i K vs H Q E) (hN : N.length = 4 := by rfl) : t_part_i K { nx := fun _ H' => Q .non H', rt := Q } (start N vs) H := by
  have h : spD K cx0 (aCons (ir (rz (oT (rz (oT rI))))) (aOne (ir (rz (oL rI))))) (fz (rz (oT (rz (oT rI))))) (fun (a : (List (List Int)) × (List Int)) => (M_part_i (some a.1, some a.2, none, none, ())).run none) vs H Q E := h
  refine d_D (dn := none) (ra := (aCons (ir (rz (oT (rz (oT rI))))) (aOne (ir (rz (oL rI)))))) (e0 := fun (a : (List (List Int)) × (List Int)) => (some a.1, some a.2, none, none, ())) (sx_part_i) ?_ ?_ h
  · intro G H vs a s hr
    obtain ⟨v0, _, rfl, h0, ⟨v1, rfl, h1⟩⟩ := hr
    rw [show start N [v0, v1] = [some v0, some v1, none, none] by simp [L2.start, hN]]
    exact (e_fr h0 (e_fr h1 (e_owN (e_frN e_nil))))
  · intro b h; cases h
abbrev E_begun : Type := Option (List (List Int)) × Option (List (Int × (List Int))) × Option Th × Option (List (Int × (List Int))) × Option (List Int) × Option Int × Option (List Int) × Option Int × Option (Int × (List Int)) × Unit
def R_begun : ERep E_begun := (eFr (rz (oT (rz (oT rI)))) (eBo (oL (rz (oT2 rI (rz (oT rI))))) (eFr rTh (eFr (rz (oL (rz (oT2 rI (rz (oT rI)))))) (eFr (rz (oL rI)) (eFr rI (eFr (rz (oT rI)) (eFr rI (eFr (rz (oT2 rI (rz (oT rI)))) eNil)))))))))
abbrev l_begun_0 : Ln E_begun (List (List Int)) := Ln.z
theorem a_begun_0 : FrAt R_begun 0 (rz (oT (rz (oT rI)))) l_begun_0 := FrAt.z
abbrev l_begun_1 : Ln E_begun (List (Int × (List Int))) := (Ln.s Ln.z)
theorem a_begun_1 : BoAt R_begun 1 (oL (rz (oT2 rI (rz (oT rI))))) l_begun_1 := (BoAt.sF BoAt.z)
abbrev l_begun_2 : Ln E_begun Th := (Ln.s (Ln.s Ln.z))
theorem a_begun_2 : FrAt R_begun 2 rTh l_begun_2 := (FrAt.sF (FrAt.sB FrAt.z))
abbrev l_begun_3 : Ln E_begun (List (Int × (List Int))) := (Ln.s (Ln.s (Ln.s Ln.z)))
theorem a_begun_3 : FrAt R_begun 3 (rz (oL (rz (oT2 rI (rz (oT rI)))))) l_begun_3 := (FrAt.sF (FrAt.sB (FrAt.sF FrAt.z)))
abbrev l_begun_4 : Ln E_begun (List Int) := (Ln.s (Ln.s (Ln.s (Ln.s Ln.z))))
theorem a_begun_4 : FrAt R_begun 4 (rz (oL rI)) l_begun_4 := (FrAt.sF (FrAt.sB (FrAt.sF (FrAt.sF FrAt.z))))
abbrev l_begun_5 : Ln E_begun Int := (Ln.s (Ln.s (Ln.s (Ln.s (Ln.s Ln.z)))))
theorem a_begun_5 : FrAt R_begun 5 rI l_begun_5 := (FrAt.sF (FrAt.sB (FrAt.sF (FrAt.sF (FrAt.sF FrAt.z)))))
abbrev l_begun_6 : Ln E_begun (List Int) := (Ln.s (Ln.s (Ln.s (Ln.s (Ln.s (Ln.s Ln.z))))))
theorem a_begun_6 : FrAt R_begun 6 (rz (oT rI)) l_begun_6 := (FrAt.sF (FrAt.sB (FrAt.sF (FrAt.sF (FrAt.sF (FrAt.sF FrAt.z))))))
abbrev l_begun_7 : Ln E_begun Int := (Ln.s (Ln.s (Ln.s (Ln.s (Ln.s (Ln.s (Ln.s Ln.z)))))))
theorem a_begun_7 : FrAt R_begun 7 rI l_begun_7 := (FrAt.sF (FrAt.sB (FrAt.sF (FrAt.sF (FrAt.sF (FrAt.sF (FrAt.sF FrAt.z)))))))
abbrev l_begun_8 : Ln E_begun (Int × (List Int)) := (Ln.s (Ln.s (Ln.s (Ln.s (Ln.s (Ln.s (Ln.s (Ln.s Ln.z))))))))
theorem a_begun_8 : FrAt R_begun 8 (rz (oT2 rI (rz (oT rI)))) l_begun_8 := (FrAt.sF (FrAt.sB (FrAt.sF (FrAt.sF (FrAt.sF (FrAt.sF (FrAt.sF (FrAt.sF FrAt.z))))))))
def M_begun : E_begun → So E_begun ((List (List Int)) × (List (Int × (List Int)))) :=
    (mSeq (mIfS (mNot (mCall (fun p => m_is_from (p.1) (p.2.1) (p.2.2)) (mPair (mVar l_begun_2) (mPair (mC (1 : Int)) (mUn gLen (mVar l_begun_0)))))) (mRaise "NoPiece") mNext)
    (mSeq (mSet l_begun_3 (mSlL gCut l_begun_1 (mC none) (mPart (mUn asI (mVar l_begun_2)))))
    (mSeq (mSet l_begun_4 (mLc (mVar l_begun_3) (p2 (pN l_begun_5) (pN l_begun_6)) mYes (mVar l_begun_5) (fun e => Ln.put l_begun_5 none ((fun e => Ln.put l_begun_6 none (id e)) e)) (fun e e1 => (fun e e1 => (fun _ e1 => e1) e (Ln.put l_begun_6 (Ln.get l_begun_6 (id e)) e1)) e (Ln.put l_begun_5 (Ln.get l_begun_5 ((fun e => Ln.put l_begun_6 none (id e)) e)) e1))))
    (mRet (mUn some (mPair (mCall (fun p => m_part_i (p.1) (p.2)) (mPair (mVar l_begun_0) (mVar l_begun_4))) (mLc (mEnum (mVar l_begun_3)) (p2 (pN l_begun_7) (pN l_begun_8)) mYes (mUn some (mPair (mVar l_begun_7) (mOp gSnd (mVar l_begun_8) (mC (1 : Int))))) (fun e => Ln.put l_begun_7 none ((fun e => Ln.put l_begun_8 none (id e)) e)) (fun e e1 => (fun e e1 => (fun _ e1 => e1) e (Ln.put l_begun_8 (Ln.get l_begun_8 (id e)) e1)) e (Ln.put l_begun_7 (Ln.get l_begun_7 ((fun e => Ln.put l_begun_8 none (id e)) e)) e1)))))))))
def m_begun (x0 : (List (List Int))) (x1 : (List (Int × (List Int)))) (x2 : Th) : Rs Unit ((List (List Int)) × (List (Int × (List Int)))) := (M_begun (some x0, some x1, some x2, none, none, none, none, none, none, ())).run none
abbrev u_begun (p : (List (List Int)) × (List (Int × (List Int))) × Th) : Rs Unit ((List (List Int)) × (List (Int × (List Int)))) := m_begun (p.1) (p.2.1) (p.2.2)
def sp_begun (K : PySem.W.Frag) (cx : Str → Addr) : Sp := spX K cx (aCons (ir (rz (oT (rz (oT rI))))) (aCons (rd (oL (rz (oT2 rI (rz (oT rI)))))) (aOne (ir rTh)))) (fz (rz (oT2 (rz (oT (rz (oT rI)))) (rz (oL (rz (oT2 rI (rz (oT rI))))))))) u_begun
theorem len_begun (K : PySem.W.Frag) (cx : Str → Addr) : ∀ vs H Q E, sp_begun K cx vs H Q E → vs.length = 3 := len_X (ALen.cons (ALen.cons ALen.one))
def t_begun (K : PySem.W.Frag) (cx : Str → Addr) (E : XK) : TS :=
    (tSeq (tIfS (tNot (tB (tCall (sp_is_from K) [] E0 (tCons (tVar 2) (tCons (tC (.int 1)) (tCons (tCB (rLenL K) (tCons (tVar 0) tNil)) tNil)))))) (tRz E (cx "NoPiece")) tNext)
    (tSeq (tAsg (tSl (rSlL K) (tVar 1) tNoPart (tPart (tVar 2))) (gName 3))
    (tSeq (tAsg (tLc (iList K (tVar 3)) (gTup K 2 (gCons (gName 5) (gCons (gName 6) gNil))) tYes (tVar 5) [5, 6]) (gName 4))
    (tRet (tTup (tCons (tCall (sp_part_i K) [] E0 (tCons (tVar 0) (tCons (tVar 4) tNil))) (tCons (tLc (iEnum K (tCons (tVar 3) tNil)) (gTup K 2 (gCons (gName 7) (gCons (gName 8) gNil))) tYes (tTup (tCons (tVar 7) (tCons (tOp (rIxT K) (tVar 8) (tC (.int 1))) tNil))) [7, 8]) tNil)))))))
theorem sx_begun {K : PySem.W.Frag} {cx : Str → Addr} {E : XK} : SX ⟨K, E, cx⟩ R_begun (fz (rz (oT2 (rz (oT (rz (oT rI)))) (rz (oL (rz (oT2 rI (rz (oT rI))))))))) (t_begun K cx E) M_begun :=
    (s_seq (s_if (x_not (x_tB (x_callN (x_acons Cv.id (x_var a_begun_2) (x_acons Cv.id (x_c fun _ => rfl) (x_aone (x_is Cv.id (x_tCB v_lenT (x_aone (x_is Cv.ob (x_var a_begun_0))))))))))) s_rz s_next)
    (s_seq (s_set a_begun_3 (x_fz (x_slLF v_slL (Late.bo a_begun_1) x_noPart (x_part (x_cast c_asI (x_var a_begun_2))))))
    (s_seq (s_set a_begun_4 (x_fz (x_lc (x_iL (x_var a_begun_3)) (Wp.cons a_begun_5 (Wp.cons a_begun_6 Wp.nil)) (n_tup2 (n_name a_begun_5 (by decide)) (n_name a_begun_6 (by decide))) x_yes (x_var a_begun_5))))
    (s_ret (x_tup2 (x_p2 (x_callN (x_acons Cv.id (x_var a_begun_0) (x_aone (x_is Cv.id (x_var a_begun_4))))) (x_fz (x_lc (x_enum (x_var a_begun_3)) (Wp.cons a_begun_7 (Wp.cons a_begun_8 Wp.nil)) (n_tup2 (n_name a_begun_7 (by decide)) (n_name a_begun_8 (by decide))) x_yes (x_tup2 (x_p2 (x_var a_begun_7) (x_tOp v_t21 Cv.ob (x_var a_begun_8) (x_is Cv.id (x_c fun _ => rfl)))))))))))))
theorem rd_begun {K : PySem.W.Frag} {cx : Str → Addr} {H : Hp} {vs : List V} {Q : VK} {E : XK} {N : List Str} (h : sp_begun K cx vs H Q E) (hN : N.length = 9 := by rfl) : t_begun K cx E { nx := fun _ H' => Q .non H', rt := Q } (start N vs) H := by
  have h : spX K cx (aCons (ir (rz (oT (rz (oT rI))))) (aCons (rd (oL (rz (oT2 rI (rz (oT rI)))))) (aOne (ir rTh)))) (fz (rz (oT2 (rz (oT (rz (oT rI)))) (rz (oL (rz (oT2 rI (rz (oT rI))))))))) (fun (a : (List (List Int)) × (List (Int × (List Int))) × Th) => (M_begun (some a.1, some a.2.1, some a.2.2, none, none, none, none, none, none, ())).run none) vs H Q E := h
  refine d_X (dn := none) (ra := (aCons (ir (rz (oT (rz (oT rI))))) (aCons (rd (oL (rz (oT2 rI (rz (oT rI)))))) (aOne (ir rTh))))) (e0 := fun (a : (List (List Int)) × (List (Int × (List Int))) × Th) => (some a.1, some a.2.1, some a.2.2, none, none, none, none, none, none, ())) (sx_begun) ?_ ?_ h
  · intro G H vs a s hr
    obtain ⟨v0, _, rfl, h0, ⟨v1, _, rfl, h1, ⟨v2, rfl, h2⟩⟩⟩ := hr
    rw [show start N [v0, v1, v2] = [some v0, some v1, some v2, none, none, none, none, none, none] by simp [L2.start, hN]]
    exact (e_fr h0 (e_bo h1 bo_D (e_fr h2 (e_frN (e_frN (e_frN (e_frN (e_frN (e_frN e_nil)))))))))
  · intro b h; cases h
abbrev E_lmixed : Type := Option Int × Option Int × Option Int × Option Int × Unit
def R_lmixed : ERep E_lmixed := (eFr rI (eFr rI (eFr rI (eFr rI eNil))))
abbrev l_lmixed_0 : Ln E_lmixed Int := Ln.z
theorem a_lmixed_0 : FrAt R_lmixed 0 rI l_lmixed_0 := FrAt.z
abbrev l_lmixed_1 : Ln E_lmixed Int := (Ln.s Ln.z)
theorem a_lmixed_1 : FrAt R_lmixed 1 rI l_lmixed_1 := (FrAt.sF FrAt.z)
abbrev l_lmixed_2 : Ln E_lmixed Int := (Ln.s (Ln.s Ln.z))
theorem a_lmixed_2 : FrAt R_lmixed 2 rI l_lmixed_2 := (FrAt.sF (FrAt.sF FrAt.z))
abbrev l_lmixed_3 : Ln E_lmixed Int := (Ln.s (Ln.s (Ln.s Ln.z)))
theorem a_lmixed_3 : FrAt R_lmixed 3 rI l_lmixed_3 := (FrAt.sF (FrAt.sF (FrAt.sF FrAt.z)))
def M_lmixed : E_lmixed → So E_lmixed Int :=
    (mSeq (mSet l_lmixed_2 (mOp gMod (mOp gMul (mOp gAdd (mOp gAdd (mOp gMod (mVar l_lmixed_0) (mC (2147483629 : Int))) (mOp gMul (mC (52711 : Int)) (mVar l_lmixed_1))) (mC (97 : Int))) (mC (48271 : Int))) (mC (2147483647 : Int))))
    (mSeq (mSet l_lmixed_3 (mOp gMod (mOp gAdd (mOp gAdd (mOp gMul (mVar l_lmixed_2) (mVar l_lmixed_2)) (mOp gMul (mC (40692 : Int)) (mVar l_lmixed_2))) (mOp gMul (mC (13 : Int)) (mVar l_lmixed_1))) (mC (2147483563 : Int))))
    (mRet (mOp gDiv (mOp gMod (mOp gMul (mVar l_lmixed_3) (mOp gAdd (mOp gMod (mVar l_lmixed_3) (mC (65521 : Int))) (mC (7 : Int)))) (mC (2147483587 : Int))) (mC (5 : Int))))))
def m_lmixed (x0 : Int) (x1 : Int) : Rs Unit Int := (M_lmixed (some x0, some x1, none, none, ())).run none
abbrev u_lmixed (p : Int × Int) : Rs Unit Int := m_lmixed (p.1) (p.2)
def sp_lmixed (K : PySem.W.Frag) : Sp := spD K cx0 (aCons (ir rI) (aOne (ir rI))) (fz rI) u_lmixed
theorem len_lmixed (K : PySem.W.Frag) : ∀ vs H Q E, sp_lmixed K vs H Q E → vs.length = 2 := len_D (ALen.cons ALen.one)
def t_lmixed (K : PySem.W.Frag) : TS :=
    (tSeq (tAsg (tOp rMod (tOp rMul (tOp rAdd (tOp rAdd (tOp rMod (tVar 0) (tC (.int 2147483629))) (tOp rMul (tC (.int 52711)) (tVar 1))) (tC (.int 97))) (tC (.int 48271))) (tC (.int 2147483647))) (gName 2))
    (tSeq (tAsg (tOp rMod (tOp rAdd (tOp rAdd (tOp rMul (tVar 2) (tVar 2)) (tOp rMul (tC (.int 40692)) (tVar 2))) (tOp rMul (tC (.int 13)) (tVar 1))) (tC (.int 2147483563))) (gName 3))
    (tRet (tOp rDiv (tOp rMod (tOp rMul (tVar 3) (tOp rAdd (tOp rMod (tVar 3) (tC (.int 65521))) (tC (.int 7)))) (tC (.int 2147483587))) (tC (.int 5))))))
theorem sx_lmixed {K : PySem.W.Frag} : SX ⟨K, E0, cx0⟩ R_lmixed (fz rI) (t_lmixed K) M_lmixed :=
    (s_seq (s_set a_lmixed_2 (x_tOp v_mod Cv.id (x_tOp v_mul Cv.id (x_tOp v_add Cv.id (x_tOp v_add Cv.id (x_tOp v_mod Cv.id (x_var a_lmixed_0) (x_is Cv.id (x_c fun _ => rfl))) (x_is Cv.id (x_tOp v_mul Cv.id (x_c fun _ => rfl) (x_is Cv.id (x_var a_lmixed_1))))) (x_is Cv.id (x_c fun _ => rfl))) (x_is Cv.id (x_c fun _ => rfl))) (x_is Cv.id (x_c fun _ => rfl))))
    (s_seq (s_set a_lmixed_3 (x_tOp v_mod Cv.id (x_tOp v_add Cv.id (x_tOp v_add Cv.id (x_tOp v_mul Cv.id (x_var a_lmixed_2) (x_is Cv.id (x_var a_lmixed_2))) (x_is Cv.id (x_tOp v_mul Cv.id (x_c fun _ => rfl) (x_is Cv.id (x_var a_lmixed_2))))) (x_is Cv.id (x_tOp v_mul Cv.id (x_c fun _ => rfl) (x_is Cv.id (x_var a_lmixed_1))))) (x_is Cv.id (x_c fun _ => rfl))))
    (s_ret (x_tOp v_div Cv.id (x_tOp v_mod Cv.id (x_tOp v_mul Cv.id (x_var a_lmixed_3) (x_is Cv.id (x_tOp v_add Cv.id (x_tOp v_mod Cv.id (x_var a_lmixed_3) (x_is Cv.id (x_c fun _ => rfl))) (x_is Cv.id (x_c fun _ => rfl))))) (x_is Cv.id (x_c fun _ => rfl))) (x_is Cv.id (x_c fun _ => rfl))))))
theorem rd_lmixed {K : PySem.W.Frag} {H : Hp} {vs : List V} {Q : VK} {E : XK} {N : List Str} (h : sp_lmixed K vs H Q E) (hN : N.length = 4 := by rfl) : t_lmixed K { nx := fun _ H' => Q .non H', rt := Q } (start N vs) H := by
  have h : spD K cx0 (aCons (ir rI) (aOne (ir rI))) (fz rI) (fun (a : Int × Int) => (M_lmixed (some a.1, some a.2, none, none, ())).run none) vs H Q E := h
  refine d_D (dn := none) (ra := (aCons (ir rI) (aOne (ir rI)))) (e0 := fun (a : Int × Int) => (some a.1, some a.2, none, none, ())) (sx_lmixed) ?_ ?_ h
  · intro G H vs a s hr
    obtain ⟨v0, _, rfl, h0, ⟨v1, rfl, h1⟩⟩ := hr
    rw [show start N [v0, v1] = [some v0, some v1, none, none] by simp [L2.start, hN]]
    exact (e_fr h0 (e_fr h1 (e_frN (e_frN e_nil))))
  · intro b h; cases h
abbrev E_ltake : Type := Option ((List Int) × Int × Int) × Option Int × Option (List Int) × Option Int × Option Int × Option Int × Unit
def R_ltake : ERep E_ltake := (eIo 0 (oL3 rScr rI rI) (eFr rI (eFr rScr (eFr rI (eFr rI (eFr rI eNil))))))
abbrev l_ltake_0 : Ln E_ltake ((List Int) × Int × Int) := Ln.z
theorem a_ltake_0 : OwAt R_ltake 0 (ownI 0) (oL3 rScr rI rI) l_ltake_0 := OwAt.z
abbrev l_ltake_1 : Ln E_ltake Int := (Ln.s Ln.z)
theorem a_ltake_1 : FrAt R_ltake 1 rI l_ltake_1 := (FrAt.sO FrAt.z)
abbrev l_ltake_2 : Ln E_ltake (List Int) := (Ln.s (Ln.s Ln.z))
theorem a_ltake_2 : FrAt R_ltake 2 rScr l_ltake_2 := (FrAt.sO (FrAt.sF FrAt.z))
abbrev l_ltake_3 : Ln E_ltake Int := (Ln.s (Ln.s (Ln.s Ln.z)))
theorem a_ltake_3 : FrAt R_ltake 3 rI l_ltake_3 := (FrAt.sO (FrAt.sF (FrAt.sF FrAt.z)))
abbrev l_ltake_4 : Ln E_ltake Int := (Ln.s (Ln.s (Ln.s (Ln.s Ln.z))))
theorem a_ltake_4 : FrAt R_ltake 4 rI l_ltake_4 := (FrAt.sO (FrAt.sF (FrAt.sF (FrAt.sF FrAt.z))))
abbrev l_ltake_5 : Ln E_ltake Int := (Ln.s (Ln.s (Ln.s (Ln.s (Ln.s Ln.z)))))
theorem a_ltake_5 : FrAt R_ltake 5 rI l_ltake_5 := (FrAt.sO (FrAt.sF (FrAt.sF (FrAt.sF (FrAt.sF FrAt.z)))))
def M_ltake : E_ltake → So E_ltake Int :=
    (mSeq (mKill (fun e => (Ln.put l_ltake_2 none (Ln.put l_ltake_3 none (Ln.put l_ltake_4 none e)))) (mIfS (mOp gEq (mOpL g32 l_ltake_0 (mC (2 : Int))) (mC (0 : Int))) (mSeq (mSet l_ltake_2 (mOpL gFst l_ltake_0 (mC (0 : Int))))
    (mSeq (mSet l_ltake_3 (mOpL g31 l_ltake_0 (mC (1 : Int))))
    (mSeq (mSetI l_ltake_0 gSet31 (mC (1 : Int)) (mOp gAdd (mVar l_ltake_3) (mC (1 : Int))))
    (mSeq (mSet l_ltake_4 (mC (11 : Int)))
    (mSeq (mIfS (mOp gGt (mUn gLen (mVar l_ltake_2)) (mC (0 : Int))) (mSet l_ltake_4 (mOp gIx (mVar l_ltake_2) (mOp gMod (mVar l_ltake_3) (mUn gLen (mVar l_ltake_2))))) mNext)
    (mSeq (mIfS (mOr (mOp gGe (mVar l_ltake_3) (mUn gLen (mVar l_ltake_2))) (mOp gLt (mUn gAbs (mVar l_ltake_4)) (mC (1000000000000000000 : Int)))) (mRet (mOp gMod (mCall (fun p => m_lmixed (p.1) (p.2)) (mPair (mVar l_ltake_4) (mVar l_ltake_3))) (mVar l_ltake_1))) mNext)
    (mSetI l_ltake_0 gSet32 (mC (2 : Int)) (mUn gAbs (mVar l_ltake_4))))))))) mNext))
    (mSeq (mSet l_ltake_5 (mOp gMod (mOpL g32 l_ltake_0 (mC (2 : Int))) (mVar l_ltake_1)))
    (mSeq (mSetI l_ltake_0 gSet32 (mC (2 : Int)) (mOp gDiv (mOpL g32 l_ltake_0 (mC (2 : Int))) (mVar l_ltake_1)))
    (mRet (mVar l_ltake_5)))))
def m_ltake (x0 : ((List Int) × Int × Int)) (x1 : Int) : Rs ((List Int) × Int × Int) Int := (M_ltake (some x0, some x1, none, none, none, none, ())).runI l_ltake_0 none
abbrev u_ltake (s : ((List Int) × Int × Int)) (p : Int) : Rs ((List Int) × Int × Int) Int := m_ltake s p
def sp_ltake (K : PySem.W.Frag) : Sp := spI K cx0 (oL3 rScr rI rI) (aOne (ir rI)) (fz rI) u_ltake
theorem len_ltake (K : PySem.W.Frag) : ∀ vs H Q E, sp_ltake K vs H Q E → vs.length = 2 := len_I ALen.one
def t_ltake (K : PySem.W.Frag) : TS :=
    (tCut (tIfS (tTest (tOp rEq (tOp (rIxL K) (tVar 0) (tC (.int 2))) (tC (.int 0)))) (tSeq (tAsg (tOp (rIxL K) (tVar 0) (tC (.int 0))) (gName 2))
    (tSeq (tAsg (tOp (rIxL K) (tVar 0) (tC (.int 1))) (gName 3))
    (tSeq (tAsg (tOp rAdd (tVar 3) (tC (.int 1))) (gSub (tVar 0) (tC (.int 1)) rSetL))
    (tSeq (tAsg (tC (.int 11)) (gName 4))
    (tCut (tIfS (tTest (tOp rGt (tCB (rLenL K) (tCons (tVar 2) tNil)) (tC (.int 0)))) (tAsg (tOp (rIxL K) (tVar 2) (tOp rMod (tVar 3) (tCB (rLenL K) (tCons (tVar 2) tNil)))) (gName 4)) tNext)
    (tSeq (tIfS (tOr (tTest (tOp rGe (tVar 3) (tCB (rLenL K) (tCons (tVar 2) tNil)))) (tTest (tOp rLt (tCB rAbs (tCons (tVar 4) tNil)) (tOp rPow (tC (.int 10)) (tC (.int 18)))))) (tRet (tOp rMod (tCall (sp_lmixed K) [] E0 (tCons (tVar 4) (tCons (tVar 3) tNil))) (tVar 1))) tNext)
    (tAsg (tCB rAbs (tCons (tVar 4) tNil)) (gSub (tVar 0) (tC (.int 2)) rSetL)))))))) tNext)
    (tSeq (tAsg (tOp rMod (tOp (rIxL K) (tVar 0) (tC (.int 2))) (tVar 1)) (gName 5))
    (tSeq (tAsg (tOp rDiv (tOp (rIxL K) (tVar 0) (tC (.int 2))) (tVar 1)) (gSub (tVar 0) (tC (.int 2)) rSetL))
    (tRet (tVar 5)))))
theorem sx_ltake {K : PySem.W.Frag} : SX ⟨K, E0, cx0⟩ R_ltake (fz rI) (t_ltake K) M_ltake :=
    (s_cut (s_kill (Kl.and (Kl.fr a_ltake_2) (Kl.and (Kl.fr a_ltake_3) (Kl.fr a_ltake_4))) (s_if (x_test (x_tOp v_eqI Cv.id (x_tOpL v_l32 (Late.ow a_ltake_0) (x_is Cv.id (x_c fun _ => rfl))) (x_is Cv.id (x_c fun _ => rfl)))) (s_seq (s_set a_ltake_2 (x_tOpL v_l30 (Late.ow a_ltake_0) (x_is Cv.id (x_c fun _ => rfl))))
    (s_seq (s_set a_ltake_3 (x_tOpL v_l31 (Late.ow a_ltake_0) (x_is Cv.id (x_c fun _ => rfl))))
    (s_seq (s_setI v_set31 nt_L3 ownI_q a_ltake_0 (x_tOp v_add Cv.id (x_var a_ltake_3) (x_is Cv.id (x_c fun _ => rfl))) (x_c fun _ => rfl))
    (s_seq (s_set a_ltake_4 (x_c fun _ => rfl))
    (s_cut (s_if (x_test (x_tOp v_gt Cv.id (x_tCB v_lenS (x_aone (x_is Cv.id (x_var a_ltake_2)))) (x_is Cv.id (x_c fun _ => rfl)))) (s_set a_ltake_4 (x_tOp v_ixS Cv.id (x_var a_ltake_2) (x_is Cv.id (x_tOp v_mod Cv.id (x_var a_ltake_3) (x_is Cv.id (x_tCB v_lenS (x_aone (x_is Cv.id (x_var a_ltake_2))))))))) s_next)
    (s_seq (s_if (x_or (x_test (x_tOp v_ge Cv.id (x_var a_ltake_3) (x_is Cv.id (x_tCB v_lenS (x_aone (x_is Cv.id (x_var a_ltake_2))))))) (x_test (x_tOp v_lt Cv.id (x_tCB v_abs (x_aone (x_is Cv.id (x_var a_ltake_4)))) (x_is Cv.id (x_powc (by decide)))))) (s_ret (x_tOp v_mod Cv.id (x_call (x_acons Cv.id (x_var a_ltake_4) (x_aone (x_is Cv.id (x_var a_ltake_3))))) (x_is Cv.id (x_var a_ltake_1)))) s_next)
    (s_setI v_set32 nt_L3 ownI_q a_ltake_0 (x_tCB v_abs (x_aone (x_is Cv.id (x_var a_ltake_4)))) (x_c fun _ => rfl)))))))) s_next))
    (s_seq (s_set a_ltake_5 (x_tOp v_mod Cv.id (x_tOpL v_l32 (Late.ow a_ltake_0) (x_is Cv.id (x_c fun _ => rfl))) (x_is Cv.id (x_var a_ltake_1))))
    (s_seq (s_setI v_set32 nt_L3 ownI_q a_ltake_0 (x_tOp v_div Cv.id (x_tOpL v_l32 (Late.ow a_ltake_0) (x_is Cv.id (x_c fun _ => rfl))) (x_is Cv.id (x_var a_ltake_1))) (x_c fun _ => rfl))
    (s_ret (x_var a_ltake_5)))))
theorem rd_ltake {K : PySem.W.Frag} {H : Hp} {vs : List V} {Q : VK} {E : XK} {N : List Str} (h : sp_ltake K vs H Q E) (hN : N.length = 6 := by rfl) : t_ltake K { nx := fun _ H' => Q .non H', rt := Q } (start N vs) H := by
  have h : spI K cx0 (oL3 rScr rI rI) (aOne (ir rI)) (fz rI) (fun (s : ((List Int) × Int × Int)) (a : Int) => (M_ltake (some s, some a, none, none, none, none, ())).runI l_ltake_0 none) vs H Q E := h
  refine d_I (dn := none) (ra := (aOne (ir rI))) (e0 := fun (s : ((List Int) × Int × Int)) (a : Int) => (some s, some a, none, none, none, none, ())) (sx_ltake) a_ltake_0 ?_ ?_ h
  · intro G H p ho st ws a k1 k2 k3 s hr
    obtain ⟨v1, rfl, h1⟩ := hr
    rw [show start N [.ref p, v1] = [some (.ref p), some v1, none, none, none, none] by simp [L2.start, hN]]
    exact e_io k1 k2 k3 rfl ⟨rfl, rfl⟩ (e_fr h1 (e_frN (e_frN (e_frN (e_frN e_nil)))))
  · intro b h; cases h
abbrev E_lcorners : Type := Option ((List Int) × Int × Int) × Option Int × Option Int × Option (List Int) × Option Int × Option Int × Unit
def R_lcorners : ERep E_lcorners := (eIo 0 (oL3 rScr rI rI) (eFr rI (eFr rI (eOw (oL rI) (eFr rI (eFr rI eNil))))))
abbrev l_lcorners_0 : Ln E_lcorners ((List Int) × Int × Int) := Ln.z
theorem a_lcorners_0 : OwAt R_lcorners 0 (ownI 0) (oL3 rScr rI rI) l_lcorners_0 := OwAt.z
abbrev l_lcorners_1 : Ln E_lcorners Int := (Ln.s Ln.z)
theorem a_lcorners_1 : FrAt R_lcorners 1 rI l_lcorners_1 := (FrAt.sO FrAt.z)
abbrev l_lcorners_2 : Ln E_lcorners Int := (Ln.s (Ln.s Ln.z))
theorem a_lcorners_2 : FrAt R_lcorners 2 rI l_lcorners_2 := (FrAt.sO (FrAt.sF FrAt.z))
abbrev l_lcorners_3 : Ln E_lcorners (List Int) := (Ln.s (Ln.s (Ln.s Ln.z)))
theorem a_lcorners_3 : OwAt R_lcorners 3 ownN (oL rI) l_lcorners_3 := (OwAt.sO (OwAt.sF (OwAt.sF OwAt.z)))
abbrev l_lcorners_4 : Ln E_lcorners Int := (Ln.s (Ln.s (Ln.s (Ln.s Ln.z))))
theorem a_lcorners_4 : FrAt R_lcorners 4 rI l_lcorners_4 := (FrAt.sO (FrAt.sF (FrAt.sF (FrAt.sO FrAt.z))))
abbrev l_lcorners_5 : Ln E_lcorners Int := (Ln.s (Ln.s (Ln.s (Ln.s (Ln.s Ln.z)))))
theorem a_lcorners_5 : FrAt R_lcorners 5 rI l_lcorners_5 := (FrAt.sO (FrAt.sF (FrAt.sF (FrAt.sO (FrAt.sF FrAt.z)))))
def M_lcorners : E_lcorners → So E_lcorners (List Int) :=
    (mSeq (mSet l_lcorners_2 (mCallI l_lcorners_0 (fun s p => m_ltake s p) (mC (4 : Int))))
    (mSeq (mSet l_lcorners_3 (mUn szOk (mC ([] : List Int))))
    (mSeq (mKill (fun e => (Ln.put l_lcorners_4 none (Ln.put l_lcorners_5 none e))) (mFor (mRng1 (mVar l_lcorners_1)) (pN l_lcorners_4)
    (mKill (fun e => (Ln.put l_lcorners_4 none (Ln.put l_lcorners_5 none e))) (mSeq (mSet l_lcorners_5 (mOp gIx (mUn szOk (mCons (mVar l_lcorners_4) (mCons (mOp gSubI (mVar l_lcorners_4) (mOp gDiv (mVar l_lcorners_1) (mC (2 : Int)))) (mCons (mOp gSubI (mOp gSubI (mC (1000000000000000000000000000000 : Int)) (mC (1 : Int))) (mVar l_lcorners_4)) (mCons (mOp gAdd (mOp gMulW (mOp gSubI (mVar l_lcorners_4) (mOp gDiv (mVar l_lcorners_1) (mC (2 : Int)))) (mC (10000000000000000000000000000 : Int))) (mVar l_lcorners_4)) (mC [])))))) (mVar l_lcorners_2)))
    (mDrop (mBM l_lcorners_3 gIns (mPair (mCallI l_lcorners_0 (fun s p => m_ltake s p) (mOp gAdd (mUn gLen (mVar l_lcorners_3)) (mC (1 : Int)))) (mVar l_lcorners_5))))))))
    (mRet (mMove l_lcorners_3)))))
def m_lcorners (x0 : ((List Int) × Int × Int)) (x1 : Int) : Rs ((List Int) × Int × Int) (List Int) := (M_lcorners (some x0, some x1, none, none, none, none, ())).runI l_lcorners_0 none
abbrev u_lcorners (s : ((List Int) × Int × Int)) (p : Int) : Rs ((List Int) × Int × Int) (List Int) := m_lcorners s p
def sp_lcorners (K : PySem.W.Frag) : Sp := spI K cx0 (oL3 rScr rI rI) (aOne (ir rI)) (fs (oL rI)) u_lcorners
theorem len_lcorners (K : PySem.W.Frag) : ∀ vs H Q E, sp_lcorners K vs H Q E → vs.length = 2 := len_I ALen.one
def t_lcorners (K : PySem.W.Frag) : TS :=
    (tSeq (tAsg (tCall (sp_ltake K) [] E0 (tCons (tVar 0) (tCons (tC (.int 4)) tNil))) (gName 2))
    (tSeq (tAsg (tLst tNil) (gName 3))
    (tSeq (tFor (iRng1 (tCons (tVar 1) tNil)) (gName 4)
    (tSeq (tAsg (tOp (rIxL K) (tLst (tCons (tVar 4) (tCons (tOp rSub (tVar 4) (tOp rDiv (tVar 1) (tC (.int 2)))) (tCons (tOp rSub (tOp rSub (tOp rPow (tC (.int 10)) (tC (.int 30))) (tC (.int 1))) (tVar 4)) (tCons (tOp rAdd (tOp rMulW (tOp rSub (tVar 4) (tOp rDiv (tVar 1) (tC (.int 2)))) (tOp rPow (tC (.int 10)) (tC (.int 28)))) (tVar 4)) tNil))))) (tVar 2)) (gName 5))
    (tDrop (tBM K "list" rIns (tVar 3) (tCons (tCall (sp_ltake K) [] E0 (tCons (tVar 0) (tCons (tOp rAdd (tCB (rLenL K) (tCons (tVar 3) tNil)) (tC (.int 1))) tNil))) (tCons (tVar 5) tNil))))))
    (tRet (tVar 3)))))
theorem sx_lcorners {K : PySem.W.Frag} : SX ⟨K, E0, cx0⟩ R_lcorners (fs (oL rI)) (t_lcorners K) M_lcorners :=
    (s_seq (s_set a_lcorners_2 (x_callI a_lcorners_0 ownI_q (x_pone Cv.id (x_c fun _ => rfl))))
    (s_seq (s_setO a_lcorners_3 (x_lst (x_lnil (r := rI))))
    (s_seq (s_kill (Kl.and (Kl.fr a_lcorners_4) (Kl.fr a_lcorners_5)) (s_for (vs := [4]) (x_rng1 (x_aone (x_is Cv.id (x_var a_lcorners_1)))) (n_name a_lcorners_4 (by decide))
    (s_kill (Kl.and (Kl.fr a_lcorners_4) (Kl.fr a_lcorners_5)) (s_seq (s_set a_lcorners_5 (x_tOp v_ixL Cv.ob (x_fz (x_lst (x_lcons (x_var a_lcorners_4) (x_lcons (x_tOp v_sub Cv.id (x_var a_lcorners_4) (x_is Cv.id (x_tOp v_div Cv.id (x_var a_lcorners_1) (x_is Cv.id (x_c fun _ => rfl))))) (x_lcons (x_tOp v_sub Cv.id (x_tOp v_sub Cv.id (x_powc (by decide)) (x_is Cv.id (x_c fun _ => rfl))) (x_is Cv.id (x_var a_lcorners_4))) (x_lcons (x_tOp v_add Cv.id (x_tOp v_mulW Cv.id (x_tOp v_sub Cv.id (x_var a_lcorners_4) (x_is Cv.id (x_tOp v_div Cv.id (x_var a_lcorners_1) (x_is Cv.id (x_c fun _ => rfl))))) (x_is Cv.id (x_powc (by decide)))) (x_is Cv.id (x_var a_lcorners_4))) x_lnil)))))) (x_is Cv.id (x_var a_lcorners_2))))
    (s_drop (x_bm v_ins ty_L nt_L ownN_q a_lcorners_3 (x_gcons (x_callI a_lcorners_0 ownI_q (x_pone Cv.id (x_tOp v_add Cv.id (x_tCB v_lenL (x_aone (x_varL (Late.ow a_lcorners_3)))) (x_is Cv.id (x_c fun _ => rfl))))) (x_gone (x_var a_lcorners_5)))))))))
    (s_ret (x_move a_lcorners_3)))))
theorem rd_lcorners {K : PySem.W.Frag} {H : Hp} {vs : List V} {Q : VK} {E : XK} {N : List Str} (h : sp_lcorners K vs H Q E) (hN : N.length = 6 := by rfl) : t_lcorners K { nx := fun _ H' => Q .non H', rt := Q } (start N vs) H := by
  have h : spI K cx0 (oL3 rScr rI rI) (aOne (ir rI)) (fs (oL rI)) (fun (s : ((List Int) × Int × Int)) (a : Int) => (M_lcorners (some s, some a, none, none, none, none, ())).runI l_lcorners_0 none) vs H Q E := h
  refine d_I (dn := none) (ra := (aOne (ir rI))) (e0 := fun (s : ((List Int) × Int × Int)) (a : Int) => (some s, some a, none, none, none, none, ())) (sx_lcorners) a_lcorners_0 ?_ ?_ h
  · intro G H p ho st ws a k1 k2 k3 s hr
    obtain ⟨v1, rfl, h1⟩ := hr
    rw [show start N [.ref p, v1] = [some (.ref p), some v1, none, none, none, none] by simp [L2.start, hN]]
    exact e_io k1 k2 k3 rfl ⟨rfl, rfl⟩ (e_fr h1 (e_frN (e_owN (e_frN (e_frN e_nil)))))
  · intro b h; cases h
abbrev E_lorder : Type := Option ((List Int) × Int × Int) × Option Int × Option (List Int) × Option Int × Unit
def R_lorder : ERep E_lorder := (eIo 0 (oL3 rScr rI rI) (eFr rI (eOw (oL rI) (eFr rI eNil))))
abbrev l_lorder_0 : Ln E_lorder ((List Int) × Int × Int) := Ln.z
theorem a_lorder_0 : OwAt R_lorder 0 (ownI 0) (oL3 rScr rI rI) l_lorder_0 := OwAt.z
abbrev l_lorder_1 : Ln E_lorder Int := (Ln.s Ln.z)
theorem a_lorder_1 : FrAt R_lorder 1 rI l_lorder_1 := (FrAt.sO FrAt.z)
abbrev l_lorder_2 : Ln E_lorder (List Int) := (Ln.s (Ln.s Ln.z))
theorem a_lorder_2 : OwAt R_lorder 2 ownN (oL rI) l_lorder_2 := (OwAt.sO (OwAt.sF OwAt.z))
abbrev l_lorder_3 : Ln E_lorder Int := (Ln.s (Ln.s (Ln.s Ln.z)))
theorem a_lorder_3 : FrAt R_lorder 3 rI l_lorder_3 := (FrAt.sO (FrAt.sF (FrAt.sO FrAt.z)))
def M_lorder : E_lorder → So E_lorder (List Int) :=
    (mSeq (mSet l_lorder_2 (mUn szOk (mC ([] : List Int))))
    (mSeq (mKill (fun e => (Ln.put l_lorder_3 none e)) (mFor (mRng1 (mVar l_lorder_1)) (pN l_lorder_3)
    (mKill (fun e => (Ln.put l_lorder_3 none e)) (mDrop (mBM l_lorder_2 gIns (mPair (mCallI l_lorder_0 (fun s p => m_ltake s p) (mOp gAdd (mVar l_lorder_3) (mC (1 : Int)))) (mVar l_lorder_3)))))))
    (mRet (mMove l_lorder_2))))
def m_lorder (x0 : ((List Int) × Int × Int)) (x1 : Int) : Rs ((List Int) × Int × Int) (List Int) := (M_lorder (some x0, some x1, none, none, ())).runI l_lorder_0 none
abbrev u_lorder (s : ((List Int) × Int × Int)) (p : Int) : Rs ((List Int) × Int × Int) (List Int) := m_lorder s p
def sp_lorder (K : PySem.W.Frag) : Sp := spI K cx0 (oL3 rScr rI rI) (aOne (ir rI)) (fs (oL rI)) u_lorder
theorem len_lorder (K : PySem.W.Frag) : ∀ vs H Q E, sp_lorder K vs H Q E → vs.length = 2 := len_I ALen.one
def t_lorder (K : PySem.W.Frag) : TS :=
    (tSeq (tAsg (tLst tNil) (gName 2))
    (tSeq (tFor (iRng1 (tCons (tVar 1) tNil)) (gName 3)
    (tDrop (tBM K "list" rIns (tVar 2) (tCons (tCall (sp_ltake K) [] E0 (tCons (tVar 0) (tCons (tOp rAdd (tVar 3) (tC (.int 1))) tNil))) (tCons (tVar 3) tNil)))))
    (tRet (tVar 2))))
theorem sx_lorder {K : PySem.W.Frag} : SX ⟨K, E0, cx0⟩ R_lorder (fs (oL rI)) (t_lorder K) M_lorder :=
    (s_seq (s_setO a_lorder_2 (x_lst (x_lnil (r := rI))))
    (s_seq (s_kill (Kl.fr a_lorder_3) (s_for (vs := [3]) (x_rng1 (x_aone (x_is Cv.id (x_var a_lorder_1)))) (n_name a_lorder_3 (by decide))
    (s_kill (Kl.fr a_lorder_3) (s_drop (x_bm v_ins ty_L nt_L ownN_q a_lorder_2 (x_gcons (x_callI a_lorder_0 ownI_q (x_pone Cv.id (x_tOp v_add Cv.id (x_var a_lorder_3) (x_is Cv.id (x_c fun _ => rfl))))) (x_gone (x_var a_lorder_3))))))))
    (s_ret (x_move a_lorder_2))))
theorem rd_lorder {K : PySem.W.Frag} {H : Hp} {vs : List V} {Q : VK} {E : XK} {N : List Str} (h : sp_lorder K vs H Q E) (hN : N.length = 4 := by rfl) : t_lorder K { nx := fun _ H' => Q .non H', rt := Q } (start N vs) H := by
  have h : spI K cx0 (oL3 rScr rI rI) (aOne (ir rI)) (fs (oL rI)) (fun (s : ((List Int) × Int × Int)) (a : Int) => (M_lorder (some s, some a, none, none, ())).runI l_lorder_0 none) vs H Q E := h
  refine d_I (dn := none) (ra := (aOne (ir rI))) (e0 := fun (s : ((List Int) × Int × Int)) (a : Int) => (some s, some a, none, none, ())) (sx_lorder) a_lorder_0 ?_ ?_ h
  · intro G H p ho st ws a k1 k2 k3 s hr
    obtain ⟨v1, rfl, h1⟩ := hr
    rw [show start N [.ref p, v1] = [some (.ref p), some v1, none, none] by simp [L2.start, hN]]
    exact e_io k1 k2 k3 rfl ⟨rfl, rfl⟩ (e_fr h1 (e_owN (e_frN e_nil)))
  · intro b h; cases h
abbrev E_lless : Type := Option (List Int) × Option (List Int) × Option Int × Unit
def R_lless : ERep E_lless := (eFr (rz (oT rI)) (eFr (rz (oT rI)) (eFr rI eNil)))
abbrev l_lless_0 : Ln E_lless (List Int) := Ln.z
theorem a_lless_0 : FrAt R_lless 0 (rz (oT rI)) l_lless_0 := FrAt.z
abbrev l_lless_1 : Ln E_lless (List Int) := (Ln.s Ln.z)
theorem a_lless_1 : FrAt R_lless 1 (rz (oT rI)) l_lless_1 := (FrAt.sF FrAt.z)
abbrev l_lless_2 : Ln E_lless Int := (Ln.s (Ln.s Ln.z))
theorem a_lless_2 : FrAt R_lless 2 rI l_lless_2 := (FrAt.sF (FrAt.sF FrAt.z))
def M_lless : E_lless → So E_lless (List Int) :=
    (mRet (mUn gId (mLc (mVar l_lless_0) (pN l_lless_2) (mOp gNin (mVar l_lless_2) (mVar l_lless_1)) (mVar l_lless_2) (fun e => Ln.put l_lless_2 none (id e)) (fun e e1 => (fun _ e1 => e1) e (Ln.put l_lless_2 (Ln.get l_lless_2 (id e)) e1)))))
def m_lless (x0 : (List Int)) (x1 : (List Int)) : Rs Unit (List Int) := (M_lless (some x0, some x1, none, ())).run none
abbrev u_lless (p : (List Int) × (List Int)) : Rs Unit (List Int) := m_lless (p.1) (p.2)
def sp_lless (K : PySem.W.Frag) : Sp := spD K cx0 (aCons (ir (rz (oT rI))) (aOne (ir (rz (oT rI))))) (fz (rz (oT rI))) u_lless
theorem len_lless (K : PySem.W.Frag) : ∀ vs H Q E, sp_lless K vs H Q E → vs.length = 2 := len_D (ALen.cons ALen.one)
def t_lless (K : PySem.W.Frag) : TS :=
    (tRet (tCB (rTupOf K) (tCons (tLc (iTup K (tVar 0)) (gName 2) (tTest (tOp (rIn K true) (tVar 2) (tVar 1))) (tVar 2) [2]) tNil)))
theorem sx_lless {K : PySem.W.Frag} : SX ⟨K, E0, cx0⟩ R_lless (fz (rz (oT rI))) (t_lless K) M_lless :=
    (s_ret (x_tCB v_tupOfL (x_aone (x_is Cv.ob (x_fz (x_lc (x_iT (x_var a_lless_0)) (Wp.cons a_lless_2 Wp.nil) (n_name a_lless_2 (by decide)) (x_test (x_tOp v_ninTI Cv.id (x_var a_lless_2) (x_is Cv.ob (x_var a_lless_1)))) (x_var a_lless_2)))))))
theorem rd_lless {K : PySem.W.Frag} {H : Hp} {vs : List V} {Q : VK} {E : XK} {N : List Str} (h : sp_lless K vs H Q E) (hN : N.length = 3 := by rfl) : t_lless K { nx := fun _ H' => Q .non H', rt := Q } (start N vs) H := by
  have h : spD K cx0 (aCons (ir (rz (oT rI))) (aOne (ir (rz (oT rI))))) (fz (rz (oT rI))) (fun (a : (List Int) × (List Int)) => (M_lless (some a.1, some a.2, none, ())).run none) vs H Q E := h
  refine d_D (dn := none) (ra := (aCons (ir (rz (oT rI))) (aOne (ir (rz (oT rI)))))) (e0 := fun (a : (List Int) × (List Int)) => (some a.1, some a.2, none, ())) (sx_lless) ?_ ?_ h
  · intro G H vs a s hr
    obtain ⟨v0, _, rfl, h0, ⟨v1, rfl, h1⟩⟩ := hr
    rw [show start N [v0, v1] = [some v0, some v1, none] by simp [L2.start, hN]]
    exact (e_fr h0 (e_fr h1 (e_frN e_nil)))
  · intro b h; cases h
abbrev E_lput : Type := Option (List ((List Int) × Bool)) × Option (List Int) × Option Int × Unit
def R_lput : ERep E_lput := (eIo 0 (oD rB) (eFr (rz (oT rI)) (eFr rI eNil)))
abbrev l_lput_0 : Ln E_lput (List ((List Int) × Bool)) := Ln.z
theorem a_lput_0 : OwAt R_lput 0 (ownI 0) (oD rB) l_lput_0 := OwAt.z
abbrev l_lput_1 : Ln E_lput (List Int) := (Ln.s Ln.z)
theorem a_lput_1 : FrAt R_lput 1 (rz (oT rI)) l_lput_1 := (FrAt.sO FrAt.z)
abbrev l_lput_2 : Ln E_lput Int := (Ln.s (Ln.s Ln.z))
theorem a_lput_2 : FrAt R_lput 2 rI l_lput_2 := (FrAt.sO (FrAt.sF FrAt.z))
def M_lput : E_lput → So E_lput Unit :=
    (mKill (fun e => (Ln.put l_lput_2 none e)) (mFor (mVar l_lput_1) (pN l_lput_2)
    (mKill (fun e => (Ln.put l_lput_2 none e)) (mSetI l_lput_0 gDPut (mCall (fun p => m_lless (p.1) (p.2)) (mPair (mVar l_lput_1) (mUn szOk (mCons (mVar l_lput_2) (mC []))))) (mC true)))))
def m_lput (x0 : (List ((List Int) × Bool))) (x1 : (List Int)) : Rs (List ((List Int) × Bool)) Unit := (M_lput (some x0, some x1, none, ())).runI l_lput_0 (some ())
abbrev u_lput (s : (List ((List Int) × Bool))) (p : (List Int)) : Rs (List ((List Int) × Bool)) Unit := m_lput s p
def sp_lput (K : PySem.W.Frag) : Sp := spI K cx0 (oD rB) (aOne (ir (rz (oT rI)))) (fz rN) u_lput
theorem len_lput (K : PySem.W.Frag) : ∀ vs H Q E, sp_lput K vs H Q E → vs.length = 2 := len_I ALen.one
def t_lput (K : PySem.W.Frag) : TS :=
    (tFor (iTup K (tVar 1)) (gName 2)
    (tAsg (tC (.bl true)) (gSub (tVar 0) (tCall (sp_lless K) [] E0 (tCons (tVar 1) (tCons (tTup (tCons (tVar 2) tNil)) tNil))) rSetD)))
theorem sx_lput {K : PySem.W.Frag} : SX ⟨K, E0, cx0⟩ R_lput (fz rN) (t_lput K) M_lput :=
    (s_kill (Kl.fr a_lput_2) (s_for (vs := [2]) (x_iT (x_var a_lput_1)) (n_name a_lput_2 (by decide))
    (s_kill (Kl.fr a_lput_2) (s_setI v_dput nt_D ownI_q a_lput_0 (x_c fun _ => rfl) (x_call (x_acons Cv.id (x_var a_lput_1) (x_aone (x_is Cv.id (x_tup (x_lcons (x_var a_lput_2) x_lnil))))))))))
theorem rd_lput {K : PySem.W.Frag} {H : Hp} {vs : List V} {Q : VK} {E : XK} {N : List Str} (h : sp_lput K vs H Q E) (hN : N.length = 3 := by rfl) : t_lput K { nx := fun _ H' => Q .non H', rt := Q } (start N vs) H := by
  have h : spI K cx0 (oD rB) (aOne (ir (rz (oT rI)))) (fz rN) (fun (s : (List ((List Int) × Bool))) (a : (List Int)) => (M_lput (some s, some a, none, ())).runI l_lput_0 (some ())) vs H Q E := h
  refine d_I (dn := (some ())) (ra := (aOne (ir (rz (oT rI))))) (e0 := fun (s : (List ((List Int) × Bool))) (a : (List Int)) => (some s, some a, none, ())) (sx_lput) a_lput_0 ?_ ?_ h
  · intro G H p ho st ws a k1 k2 k3 s hr
    obtain ⟨v1, rfl, h1⟩ := hr
    rw [show start N [.ref p, v1] = [some (.ref p), some v1, none] by simp [L2.start, hN]]
    exact e_io k1 k2 k3 rfl ⟨rfl, rfl⟩ (e_fr h1 (e_frN e_nil))
  · intro b h; cases h; intro F G H; exact ⟨rfl, rfl⟩
abbrev E_lbrings : Type := Option (List (List Int)) × Option (List ((List Int) × Bool)) × Option (List Int) × Option (List Int) × Option (List Int) × Option Int × Unit
def R_lbrings : ERep E_lbrings := (eBo (oL (rz (oT rI))) (eBo (oD rB) (eFr (rz (oT rI)) (eFr (rz (oT rI)) (eFr (rz (oT rI)) (eFr rI eNil))))))
abbrev l_lbrings_0 : Ln E_lbrings (List (List Int)) := Ln.z
theorem a_lbrings_0 : BoAt R_lbrings 0 (oL (rz (oT rI))) l_lbrings_0 := BoAt.z
abbrev l_lbrings_1 : Ln E_lbrings (List ((List Int) × Bool)) := (Ln.s Ln.z)
theorem a_lbrings_1 : BoAt R_lbrings 1 (oD rB) l_lbrings_1 := (BoAt.sB BoAt.z)
abbrev l_lbrings_2 : Ln E_lbrings (List Int) := (Ln.s (Ln.s Ln.z))
theorem a_lbrings_2 : FrAt R_lbrings 2 (rz (oT rI)) l_lbrings_2 := (FrAt.sB (FrAt.sB FrAt.z))
abbrev l_lbrings_3 : Ln E_lbrings (List Int) := (Ln.s (Ln.s (Ln.s Ln.z)))
theorem a_lbrings_3 : FrAt R_lbrings 3 (rz (oT rI)) l_lbrings_3 := (FrAt.sB (FrAt.sB (FrAt.sF FrAt.z)))
abbrev l_lbrings_4 : Ln E_lbrings (List Int) := (Ln.s (Ln.s (Ln.s (Ln.s Ln.z))))
theorem a_lbrings_4 : FrAt R_lbrings 4 (rz (oT rI)) l_lbrings_4 := (FrAt.sB (FrAt.sB (FrAt.sF (FrAt.sF FrAt.z))))
abbrev l_lbrings_5 : Ln E_lbrings Int := (Ln.s (Ln.s (Ln.s (Ln.s (Ln.s Ln.z)))))
theorem a_lbrings_5 : FrAt R_lbrings 5 rI l_lbrings_5 := (FrAt.sB (FrAt.sB (FrAt.sF (FrAt.sF (FrAt.sF FrAt.z)))))
def M_lbrings : E_lbrings → So E_lbrings (Option (List Int)) :=
    (mSeq (mSet l_lbrings_3 (mUn gId (mLc (mVar l_lbrings_2) (pN l_lbrings_5) (mOp dIn (mCall (fun p => m_lless (p.1) (p.2)) (mPair (mVar l_lbrings_2) (mUn szOk (mCons (mVar l_lbrings_5) (mC []))))) (mVar l_lbrings_1)) (mVar l_lbrings_5) (fun e => Ln.put l_lbrings_5 none (id e)) (fun e e1 => (fun _ e1 => e1) e (Ln.put l_lbrings_5 (Ln.get l_lbrings_5 (id e)) e1)))))
    (mSeq (mKill (fun e => (Ln.put l_lbrings_4 none e)) (mFor (mVar l_lbrings_0) (pN l_lbrings_4)
    (mKill (fun e => (Ln.put l_lbrings_4 none e)) (mIfS (mOp gEq (mLc (mVar l_lbrings_3) (pN l_lbrings_5) (mOp gNin (mVar l_lbrings_5) (mVar l_lbrings_4)) (mVar l_lbrings_5) (fun e => Ln.put l_lbrings_5 none (id e)) (fun e e1 => (fun _ e1 => e1) e (Ln.put l_lbrings_5 (Ln.get l_lbrings_5 (id e)) e1))) (mUn szOk (mC ([] : List Int)))) (mRet (mNone (mC ()))) mNext))))
    (mRet (mSome (mVar l_lbrings_3)))))
def m_lbrings (x0 : (List (List Int))) (x1 : (List ((List Int) × Bool))) (x2 : (List Int)) : Rs Unit (Option (List Int)) := (M_lbrings (some x0, some x1, some x2, none, none, none, ())).run none
abbrev u_lbrings (p : (List (List Int)) × (List ((List Int) × Bool)) × (List Int)) : Rs Unit (Option (List Int)) := m_lbrings (p.1) (p.2.1) (p.2.2)
def sp_lbrings (K : PySem.W.Frag) : Sp := spD K cx0 (aCons (rd (oL (rz (oT rI)))) (aCons (rd (oD rB)) (aOne (ir (rz (oT rI)))))) (fz (rO (rz (oT rI)))) u_lbrings
theorem len_lbrings (K : PySem.W.Frag) : ∀ vs H Q E, sp_lbrings K vs H Q E → vs.length = 3 := len_D (ALen.cons (ALen.cons ALen.one))
def t_lbrings (K : PySem.W.Frag) : TS :=
    (tSeq (tAsg (tCB (rTupOf K) (tCons (tLc (iTup K (tVar 2)) (gName 5) (tB (tDIn (tCall (sp_lless K) [] E0 (tCons (tVar 2) (tCons (tTup (tCons (tVar 5) tNil)) tNil))) (tVar 1))) (tVar 5) [5]) tNil)) (gName 3))
    (tSeq (tFor (iList K (tVar 0)) (gName 4)
    (tIfS (tTest (tOp (rEqD K) (tLc (iTup K (tVar 3)) (gName 5) (tTest (tOp (rIn K true) (tVar 5) (tVar 4))) (tVar 5) [5]) (tLst tNil))) (tRet (tC .non)) tNext))
    (tRet (tVar 3))))
theorem sx_lbrings {K : PySem.W.Frag} : SX ⟨K, E0, cx0⟩ R_lbrings (fz (rO (rz (oT rI)))) (t_lbrings K) M_lbrings :=
    (s_seq (s_set a_lbrings_3 (x_tCB v_tupOfL (x_aone (x_is Cv.ob (x_fz (x_lc (x_iT (x_var a_lbrings_2)) (Wp.cons a_lbrings_5 Wp.nil) (n_name a_lbrings_5 (by decide)) (x_tB (x_din ask_D (x_call (x_acons Cv.id (x_var a_lbrings_2) (x_aone (x_is Cv.id (x_tup (x_lcons (x_var a_lbrings_5) x_lnil)))))) (x_varL (Late.bo a_lbrings_1)))) (x_var a_lbrings_5)))))))
    (s_seq (s_kill (Kl.fr a_lbrings_4) (s_for (vs := [4]) (x_iLB a_lbrings_0) (n_name a_lbrings_4 (by decide))
    (s_kill (Kl.fr a_lbrings_4) (s_if (x_test (x_tOp (v_eqD (da_Lr da_I) (da_Lr da_I) (eq_L eq_I) (by decide)) Cv.ob (x_fz (x_lc (x_iT (x_var a_lbrings_3)) (Wp.cons a_lbrings_5 Wp.nil) (n_name a_lbrings_5 (by decide)) (x_test (x_tOp v_ninTI Cv.id (x_var a_lbrings_5) (x_is Cv.ob (x_var a_lbrings_4)))) (x_var a_lbrings_5))) (x_is Cv.ob (x_fz (x_lst (x_lnil (r := rI))))))) (s_ret (x_none (x_c fun _ => rfl))) s_next))))
    (s_ret (x_some nn_z (x_var a_lbrings_3)))))
theorem rd_lbrings {K : PySem.W.Frag} {H : Hp} {vs : List V} {Q : VK} {E : XK} {N : List Str} (h : sp_lbrings K vs H Q E) (hN : N.length = 6 := by rfl) : t_lbrings K { nx := fun _ H' => Q .non H', rt := Q } (start N vs) H := by
  have h : spD K cx0 (aCons (rd (oL (rz (oT rI)))) (aCons (rd (oD rB)) (aOne (ir (rz (oT rI)))))) (fz (rO (rz (oT rI)))) (fun (a : (List (List Int)) × (List ((List Int) × Bool)) × (List Int)) => (M_lbrings (some a.1, some a.2.1, some a.2.2, none, none, none, ())).run none) vs H Q E := h
  refine d_D (dn := none) (ra := (aCons (rd (oL (rz (oT rI)))) (aCons (rd (oD rB)) (aOne (ir (rz (oT rI))))))) (e0 := fun (a : (List (List Int)) × (List ((List Int) × Bool)) × (List Int)) => (some a.1, some a.2.1, some a.2.2, none, none, none, ())) (sx_lbrings) ?_ ?_ h
  · intro G H vs a s hr
    obtain ⟨v0, _, rfl, h0, ⟨v1, _, rfl, h1, ⟨v2, rfl, h2⟩⟩⟩ := hr
    rw [show start N [v0, v1, v2] = [some v0, some v1, some v2, none, none, none] by simp [L2.start, hN]]
    exact (e_bo h0 bo_D (e_bo h1 bo_D (e_fr h2 (e_frN (e_frN (e_frN e_nil))))))
  · intro b h; cases h
abbrev E_lgrown : Type := Option ((List Int) × Int × Int) × Option (List Int) × Option Int × Option Int × Option (List (List Int)) × Option (List ((List Int) × Bool)) × Option Int × Option (List Int) × Option Int × Option Int × Option (List Int) × Unit
def R_lgrown : ERep E_lgrown := (eIo 0 (oL3 rScr rI rI) (eBo (oL rI) (eFr rI (eFr rI (eOw (oL (rz (oT rI))) (eOw (oD rB) (eFr rI (eFr (rz (oT rI)) (eFr rI (eFr rI (eFr (rz (oT rI)) eNil)))))))))))
abbrev l_lgrown_0 : Ln E_lgrown ((List Int) × Int × Int) := Ln.z
theorem a_lgrown_0 : OwAt R_lgrown 0 (ownI 0) (oL3 rScr rI rI) l_lgrown_0 := OwAt.z
abbrev l_lgrown_1 : Ln E_lgrown (List Int) := (Ln.s Ln.z)
theorem a_lgrown_1 : BoAt R_lgrown 1 (oL rI) l_lgrown_1 := (BoAt.sO BoAt.z)
abbrev l_lgrown_2 : Ln E_lgrown Int := (Ln.s (Ln.s Ln.z))
theorem a_lgrown_2 : FrAt R_lgrown 2 rI l_lgrown_2 := (FrAt.sO (FrAt.sB FrAt.z))
abbrev l_lgrown_3 : Ln E_lgrown Int := (Ln.s (Ln.s (Ln.s Ln.z)))
theorem a_lgrown_3 : FrAt R_lgrown 3 rI l_lgrown_3 := (FrAt.sO (FrAt.sB (FrAt.sF FrAt.z)))
abbrev l_lgrown_4 : Ln E_lgrown (List (List Int)) := (Ln.s (Ln.s (Ln.s (Ln.s Ln.z))))
theorem a_lgrown_4 : OwAt R_lgrown 4 ownN (oL (rz (oT rI))) l_lgrown_4 := (OwAt.sO (OwAt.sB (OwAt.sF (OwAt.sF OwAt.z))))
abbrev l_lgrown_5 : Ln E_lgrown (List ((List Int) × Bool)) := (Ln.s (Ln.s (Ln.s (Ln.s (Ln.s Ln.z)))))
theorem a_lgrown_5 : OwAt R_lgrown 5 ownN (oD rB) l_lgrown_5 := (OwAt.sO (OwAt.sB (OwAt.sF (OwAt.sF (OwAt.sO OwAt.z)))))
abbrev l_lgrown_6 : Ln E_lgrown Int := (Ln.s (Ln.s (Ln.s (Ln.s (Ln.s (Ln.s Ln.z))))))
theorem a_lgrown_6 : FrAt R_lgrown 6 rI l_lgrown_6 := (FrAt.sO (FrAt.sB (FrAt.sF (FrAt.sF (FrAt.sO (FrAt.sO FrAt.z))))))
abbrev l_lgrown_7 : Ln E_lgrown (List Int) := (Ln.s (Ln.s (Ln.s (Ln.s (Ln.s (Ln.s (Ln.s Ln.z)))))))
theorem a_lgrown_7 : FrAt R_lgrown 7 (rz (oT rI)) l_lgrown_7 := (FrAt.sO (FrAt.sB (FrAt.sF (FrAt.sF (FrAt.sO (FrAt.sO (FrAt.sF FrAt.z)))))))
abbrev l_lgrown_8 : Ln E_lgrown Int := (Ln.s (Ln.s (Ln.s (Ln.s (Ln.s (Ln.s (Ln.s (Ln.s Ln.z))))))))
theorem a_lgrown_8 : FrAt R_lgrown 8 rI l_lgrown_8 := (FrAt.sO (FrAt.sB (FrAt.sF (FrAt.sF (FrAt.sO (FrAt.sO (FrAt.sF (FrAt.sF FrAt.z))))))))
abbrev l_lgrown_9 : Ln E_lgrown Int := (Ln.s (Ln.s (Ln.s (Ln.s (Ln.s (Ln.s (Ln.s (Ln.s (Ln.s Ln.z)))))))))
theorem a_lgrown_9 : FrAt R_lgrown 9 rI l_lgrown_9 := (FrAt.sO (FrAt.sB (FrAt.sF (FrAt.sF (FrAt.sO (FrAt.sO (FrAt.sF (FrAt.sF (FrAt.sF FrAt.z)))))))))
abbrev l_lgrown_10 : Ln E_lgrown (List Int) := (Ln.s (Ln.s (Ln.s (Ln.s (Ln.s (Ln.s (Ln.s (Ln.s (Ln.s (Ln.s Ln.z))))))))))
theorem a_lgrown_10 : FrAt R_lgrown 10 (rz (oT rI)) l_lgrown_10 := (FrAt.sO (FrAt.sB (FrAt.sF (FrAt.sF (FrAt.sO (FrAt.sO (FrAt.sF (FrAt.sF (FrAt.sF (FrAt.sF FrAt.z))))))))))
def M_lgrown : E_lgrown → So E_lgrown (List (List Int)) :=
    (mSeq (mSet l_lgrown_4 (mUn szOk (mCons (mUn gId (mUn gSort (mSlL gCut l_lgrown_1 (mC none) (mPart (mVar l_lgrown_2))))) (mC []))))
    (mSeq (mSet l_lgrown_5 (mC ([] : (List ((List Int) × Bool)))))
    (mSeq (mDrop (mCallI l_lgrown_5 (fun s p => m_lput s p) (mOpL gIx l_lgrown_4 (mC (0 : Int)))))
    (mSeq (mKill (fun e => (Ln.put l_lgrown_6 none (Ln.put l_lgrown_7 none (Ln.put l_lgrown_8 none (Ln.put l_lgrown_9 none (Ln.put l_lgrown_10 none e)))))) (mFor (mRng1 (mCallI l_lgrown_0 (fun s p => m_ltake s p) (mOp gMul (mC (2 : Int)) (mVar l_lgrown_3)))) (pN l_lgrown_6)
    (mKill (fun e => (Ln.put l_lgrown_6 none (Ln.put l_lgrown_7 none (Ln.put l_lgrown_8 none (Ln.put l_lgrown_9 none (Ln.put l_lgrown_10 none e)))))) (mSeq (mSet l_lgrown_7 (mOpL gIx l_lgrown_4 (mCallI l_lgrown_0 (fun s p => m_ltake s p) (mUn gLen (mVar l_lgrown_4)))))
    (mSeq (mSet l_lgrown_8 (mOp gIx (mVar l_lgrown_7) (mCallI l_lgrown_0 (fun s p => m_ltake s p) (mVar l_lgrown_2))))
    (mSeq (mSet l_lgrown_9 (mOpL gIx l_lgrown_1 (mCallI l_lgrown_0 (fun s p => m_ltake s p) (mUn gLen (mVar l_lgrown_1)))))
    (mSeq (mSet l_lgrown_10 (mUn gId (mUn gSort (mOp gCat (mCall (fun p => m_lless (p.1) (p.2)) (mPair (mVar l_lgrown_7) (mUn szOk (mCons (mVar l_lgrown_8) (mC []))))) (mUn szOk (mCons (mVar l_lgrown_9) (mC [])))))))
    (mIfS (mAnd (mOp gNin (mVar l_lgrown_9) (mVar l_lgrown_7)) (mAnd (mOp gLt (mUn gLen (mVar l_lgrown_4)) (mVar l_lgrown_3)) (mOp gNotN (mCall (fun p => m_lbrings (p.1) (p.2.1) (p.2.2)) (mPairL l_lgrown_4 (mPairL l_lgrown_5 (mVar l_lgrown_10)))) (mC ())))) (mSeq (mDrop (mBM l_lgrown_4 gApp (mVar l_lgrown_10)))
    (mDrop (mCallI l_lgrown_5 (fun s p => m_lput s p) (mVar l_lgrown_10)))) mNext))))))))
    (mRet (mMove l_lgrown_4))))))
def m_lgrown (x0 : ((List Int) × Int × Int)) (x1 : (List Int)) (x2 : Int) (x3 : Int) : Rs ((List Int) × Int × Int) (List (List Int)) := (M_lgrown (some x0, some x1, some x2, some x3, none, none, none, none, none, none, none, ())).runI l_lgrown_0 none
abbrev u_lgrown (s : ((List Int) × Int × Int)) (p : (List Int) × Int × Int) : Rs ((List Int) × Int × Int) (List (List Int)) := m_lgrown s (p.1) (p.2.1) (p.2.2)
def sp_lgrown (K : PySem.W.Frag) : Sp := spI K cx0 (oL3 rScr rI rI) (aCons (rd (oL rI)) (aCons (ir rI) (aOne (ir rI)))) (fs (oL (rz (oT rI)))) u_lgrown
theorem len_lgrown (K : PySem.W.Frag) : ∀ vs H Q E, sp_lgrown K vs H Q E → vs.length = 4 := len_I (ALen.cons (ALen.cons ALen.one))
def t_lgrown (K : PySem.W.Frag) : TS :=
    (tSeq (tAsg (tLst (tCons (tCB (rTupOf K) (tCons (tCB (rSortedI K) (tCons (tSl (rSlL K) (tVar 1) tNoPart (tPart (tVar 2))) tNil)) tNil)) tNil)) (gName 4))
    (tSeq (tAsg tDNewT (gName 5))
    (tSeq (tDrop (tCall (sp_lput K) [] E0 (tCons (tVar 5) (tCons (tOp (rIxL K) (tVar 4) (tC (.int 0))) tNil))))
    (tSeq (tFor (iRng1 (tCons (tCall (sp_ltake K) [] E0 (tCons (tVar 0) (tCons (tOp rMul (tC (.int 2)) (tVar 3)) tNil))) tNil)) (gName 6)
    (tSeq (tAsg (tOp (rIxL K) (tVar 4) (tCall (sp_ltake K) [] E0 (tCons (tVar 0) (tCons (tCB (rLenL K) (tCons (tVar 4) tNil)) tNil)))) (gName 7))
    (tSeq (tAsg (tOp (rIxT K) (tVar 7) (tCall (sp_ltake K) [] E0 (tCons (tVar 0) (tCons (tVar 2) tNil)))) (gName 8))
    (tSeq (tAsg (tOp (rIxL K) (tVar 1) (tCall (sp_ltake K) [] E0 (tCons (tVar 0) (tCons (tCB (rLenL K) (tCons (tVar 1) tNil)) tNil)))) (gName 9))
    (tSeq (tAsg (tCB (rTupOf K) (tCons (tCB (rSortTI K) (tCons (tOp (rCatA K) (tCall (sp_lless K) [] E0 (tCons (tVar 7) (tCons (tTup (tCons (tVar 8) tNil)) tNil))) (tTup (tCons (tVar 9) tNil))) tNil)) tNil)) (gName 10))
    (tIfS (tAnd (tTest (tOp (rIn K true) (tVar 9) (tVar 7))) (tAnd (tTest (tOp rLt (tCB (rLenL K) (tCons (tVar 4) tNil)) (tVar 3))) (tTest (tOp rNotN (tCall (sp_lbrings K) [] E0 (tCons (tVar 4) (tCons (tVar 5) (tCons (tVar 10) tNil)))) (tC .non))))) (tSeq (tDrop (tBM K "list" rAppend (tVar 4) (tCons (tVar 10) tNil)))
    (tDrop (tCall (sp_lput K) [] E0 (tCons (tVar 5) (tCons (tVar 10) tNil))))) tNext))))))
    (tRet (tVar 4))))))
theorem sx_lgrown {K : PySem.W.Frag} : SX ⟨K, E0, cx0⟩ R_lgrown (fs (oL (rz (oT rI)))) (t_lgrown K) M_lgrown :=
    (s_seq (s_setO a_lgrown_4 (x_lst (x_lcons (x_tCB v_tupOfL (x_aone (x_is Cv.ob (x_fz (x_tCBF v_sortL (x_aone (x_is Cv.ob (x_fz (x_slLF v_slL (Late.bo a_lgrown_1) x_noPart (x_part (x_var a_lgrown_2))))))))))) x_lnil)))
    (s_seq (s_setO a_lgrown_5 (x_dnew (r := rB)))
    (s_seq (s_drop (x_callI a_lgrown_5 ownN_q (x_pone Cv.id (x_tOpL v_ixL (Late.ow a_lgrown_4) (x_is Cv.id (x_c fun _ => rfl))))))
    (s_seq (s_kill (Kl.and (Kl.fr a_lgrown_6) (Kl.and (Kl.fr a_lgrown_7) (Kl.and (Kl.fr a_lgrown_8) (Kl.and (Kl.fr a_lgrown_9) (Kl.fr a_lgrown_10))))) (s_for (vs := [6]) (x_rng1 (x_aone (x_is Cv.id (x_callI a_lgrown_0 ownI_q (x_pone Cv.id (x_tOp v_mul Cv.id (x_c fun _ => rfl) (x_is Cv.id (x_var a_lgrown_3)))))))) (n_name a_lgrown_6 (by decide))
    (s_kill (Kl.and (Kl.fr a_lgrown_6) (Kl.and (Kl.fr a_lgrown_7) (Kl.and (Kl.fr a_lgrown_8) (Kl.and (Kl.fr a_lgrown_9) (Kl.fr a_lgrown_10))))) (s_seq (s_set a_lgrown_7 (x_tOpL v_ixL (Late.ow a_lgrown_4) (x_is Cv.id (x_callI a_lgrown_0 ownI_q (x_pone Cv.id (x_tCB v_lenL (x_aone (x_varL (Late.ow a_lgrown_4)))))))))
    (s_seq (s_set a_lgrown_8 (x_tOp v_ixT Cv.ob (x_var a_lgrown_7) (x_is Cv.id (x_callI a_lgrown_0 ownI_q (x_pone Cv.id (x_var a_lgrown_2))))))
    (s_seq (s_set a_lgrown_9 (x_tOpL v_ixL (Late.bo a_lgrown_1) (x_is Cv.id (x_callI a_lgrown_0 ownI_q (x_pone Cv.id (x_tCB v_lenL (x_aone (x_varL (Late.bo a_lgrown_1)))))))))
    (s_seq (s_set a_lgrown_10 (x_tCB v_tupOfL (x_aone (x_is Cv.ob (x_fz (x_tCBF v_sortT (x_aone (x_is Cv.ob (x_tOp v_catT Cv.id (x_call (x_acons Cv.id (x_var a_lgrown_7) (x_aone (x_is Cv.id (x_tup (x_lcons (x_var a_lgrown_8) x_lnil)))))) (x_is Cv.id (x_tup (x_lcons (x_var a_lgrown_9) x_lnil))))))))))))
    (s_if (x_and (x_test (x_tOp v_ninTI Cv.id (x_var a_lgrown_9) (x_is Cv.ob (x_var a_lgrown_7)))) (x_and (x_test (x_tOp v_lt Cv.id (x_tCB v_lenL (x_aone (x_varL (Late.ow a_lgrown_4)))) (x_is Cv.id (x_var a_lgrown_3)))) (x_test (x_tOp v_notN Cv.id (x_call (x_aconsL (Late.ow a_lgrown_4) (x_aconsL (Late.ow a_lgrown_5) (x_aone (x_is Cv.id (x_var a_lgrown_10)))))) (x_is Cv.id (x_c fun _ => rfl)))))) (s_seq (s_drop (x_bm v_app ty_L nt_L ownN_q a_lgrown_4 (x_gone (x_var a_lgrown_10))))
    (s_drop (x_callI a_lgrown_5 ownN_q (x_pone Cv.id (x_var a_lgrown_10))))) s_next))))))))
    (s_ret (x_move a_lgrown_4))))))
theorem rd_lgrown {K : PySem.W.Frag} {H : Hp} {vs : List V} {Q : VK} {E : XK} {N : List Str} (h : sp_lgrown K vs H Q E) (hN : N.length = 11 := by rfl) : t_lgrown K { nx := fun _ H' => Q .non H', rt := Q } (start N vs) H := by
  have h : spI K cx0 (oL3 rScr rI rI) (aCons (rd (oL rI)) (aCons (ir rI) (aOne (ir rI)))) (fs (oL (rz (oT rI)))) (fun (s : ((List Int) × Int × Int)) (a : (List Int) × Int × Int) => (M_lgrown (some s, some a.1, some a.2.1, some a.2.2, none, none, none, none, none, none, none, ())).runI l_lgrown_0 none) vs H Q E := h
  refine d_I (dn := none) (ra := (aCons (rd (oL rI)) (aCons (ir rI) (aOne (ir rI))))) (e0 := fun (s : ((List Int) × Int × Int)) (a : (List Int) × Int × Int) => (some s, some a.1, some a.2.1, some a.2.2, none, none, none, none, none, none, none, ())) (sx_lgrown) a_lgrown_0 ?_ ?_ h
  · intro G H p ho st ws a k1 k2 k3 s hr
    obtain ⟨v1, _, rfl, h1, ⟨v2, _, rfl, h2, ⟨v3, rfl, h3⟩⟩⟩ := hr
    rw [show start N [.ref p, v1, v2, v3] = [some (.ref p), some v1, some v2, some v3, none, none, none, none, none, none, none] by simp [L2.start, hN]]
    exact e_io k1 k2 k3 rfl ⟨rfl, rfl⟩ (e_bo h1 bo_I (e_fr h2 (e_fr h3 (e_owN (e_owN (e_frN (e_frN (e_frN (e_frN (e_frN e_nil))))))))))
  · intro b h; cases h
abbrev E_lany : Type := Option ((List Int) × Int × Int) × Option (List Int) × Option Int × Option Int × Option (List (List Int)) × Option Int × Option (List Int) × Option (List Int) × Option Int × Option (List Int) × Unit
def R_lany : ERep E_lany := (eIo 0 (oL3 rScr rI rI) (eBo (oL rI) (eFr rI (eFr rI (eOw (oL (rz (oT rI))) (eFr rI (eOw (oL rI) (eOw (oL rI) (eFr rI (eFr (rz (oT rI)) eNil))))))))))
abbrev l_lany_0 : Ln E_lany ((List Int) × Int × Int) := Ln.z
theorem a_lany_0 : OwAt R_lany 0 (ownI 0) (oL3 rScr rI rI) l_lany_0 := OwAt.z
abbrev l_lany_1 : Ln E_lany (List Int) := (Ln.s Ln.z)
theorem a_lany_1 : BoAt R_lany 1 (oL rI) l_lany_1 := (BoAt.sO BoAt.z)
abbrev l_lany_2 : Ln E_lany Int := (Ln.s (Ln.s Ln.z))
theorem a_lany_2 : FrAt R_lany 2 rI l_lany_2 := (FrAt.sO (FrAt.sB FrAt.z))
abbrev l_lany_3 : Ln E_lany Int := (Ln.s (Ln.s (Ln.s Ln.z)))
theorem a_lany_3 : FrAt R_lany 3 rI l_lany_3 := (FrAt.sO (FrAt.sB (FrAt.sF FrAt.z)))
abbrev l_lany_4 : Ln E_lany (List (List Int)) := (Ln.s (Ln.s (Ln.s (Ln.s Ln.z))))
theorem a_lany_4 : OwAt R_lany 4 ownN (oL (rz (oT rI))) l_lany_4 := (OwAt.sO (OwAt.sB (OwAt.sF (OwAt.sF OwAt.z))))
abbrev l_lany_5 : Ln E_lany Int := (Ln.s (Ln.s (Ln.s (Ln.s (Ln.s Ln.z)))))
theorem a_lany_5 : FrAt R_lany 5 rI l_lany_5 := (FrAt.sO (FrAt.sB (FrAt.sF (FrAt.sF (FrAt.sO FrAt.z)))))
abbrev l_lany_6 : Ln E_lany (List Int) := (Ln.s (Ln.s (Ln.s (Ln.s (Ln.s (Ln.s Ln.z))))))
theorem a_lany_6 : OwAt R_lany 6 ownN (oL rI) l_lany_6 := (OwAt.sO (OwAt.sB (OwAt.sF (OwAt.sF (OwAt.sO (OwAt.sF OwAt.z))))))
abbrev l_lany_7 : Ln E_lany (List Int) := (Ln.s (Ln.s (Ln.s (Ln.s (Ln.s (Ln.s (Ln.s Ln.z)))))))
theorem a_lany_7 : OwAt R_lany 7 ownN (oL rI) l_lany_7 := (OwAt.sO (OwAt.sB (OwAt.sF (OwAt.sF (OwAt.sO (OwAt.sF (OwAt.sO OwAt.z)))))))
abbrev l_lany_8 : Ln E_lany Int := (Ln.s (Ln.s (Ln.s (Ln.s (Ln.s (Ln.s (Ln.s (Ln.s Ln.z))))))))
theorem a_lany_8 : FrAt R_lany 8 rI l_lany_8 := (FrAt.sO (FrAt.sB (FrAt.sF (FrAt.sF (FrAt.sO (FrAt.sF (FrAt.sO (FrAt.sO FrAt.z))))))))
abbrev l_lany_9 : Ln E_lany (List Int) := (Ln.s (Ln.s (Ln.s (Ln.s (Ln.s (Ln.s (Ln.s (Ln.s (Ln.s Ln.z)))))))))
def M_lany : E_lany → So E_lany (List (List Int)) :=
    (mSeq (mSet l_lany_4 (mUn szOk (mC ([] : List (List Int)))))
    (mSeq (mKill (fun e => (Ln.put l_lany_5 none (Ln.put l_lany_6 none (Ln.put l_lany_7 none (Ln.put l_lany_8 none e))))) (mFor (mRng1 (mOp gAdd (mC (1 : Int)) (mCallI l_lany_0 (fun s p => m_ltake s p) (mVar l_lany_3)))) (pN l_lany_5)
    (mKill (fun e => (Ln.put l_lany_5 none (Ln.put l_lany_6 none (Ln.put l_lany_7 none (Ln.put l_lany_8 none e))))) (mSeq (mSet l_lany_6 (mUn gId (mVar l_lany_1)))
    (mSeq (mSet l_lany_7 (mUn szOk (mC ([] : List Int))))
    (mSeq (mKill (fun e => (Ln.put l_lany_8 none e)) (mFor (mRng1 (mVar l_lany_2)) (pN l_lany_8)
    (mKill (fun e => (Ln.put l_lany_8 none e)) (mDrop (mBM l_lany_7 gApp (mBM l_lany_6 gPopAt (mCallI l_lany_0 (fun s p => m_ltake s p) (mUn gLen (mVar l_lany_6)))))))))
    (mIfS (mOp gNin (mUn gSort (mVar l_lany_7)) (mLock l_lany_4 (mLc (mVar l_lany_4) (pN l_lany_9) mYes (mUn gId (mVar l_lany_9)) (fun e => Ln.put l_lany_9 none (id e)) (fun e e1 => (fun _ e1 => e1) e (Ln.put l_lany_9 (Ln.get l_lany_9 (id e)) e1))))) (mDrop (mBM l_lany_4 gApp (mUn gId (mUn gSort (mVar l_lany_7))))) mNext)))))))
    (mRet (mUn gId (mVar l_lany_4)))))
def m_lany (x0 : ((List Int) × Int × Int)) (x1 : (List Int)) (x2 : Int) (x3 : Int) : Rs ((List Int) × Int × Int) (List (List Int)) := (M_lany (some x0, some x1, some x2, some x3, none, none, none, none, none, none, ())).runI l_lany_0 none
abbrev u_lany (s : ((List Int) × Int × Int)) (p : (List Int) × Int × Int) : Rs ((List Int) × Int × Int) (List (List Int)) := m_lany s (p.1) (p.2.1) (p.2.2)
def sp_lany (K : PySem.W.Frag) : Sp := spI K cx0 (oL3 rScr rI rI) (aCons (rd (oL rI)) (aCons (ir rI) (aOne (ir rI)))) (fz (rz (oT (rz (oT rI))))) u_lany
theorem len_lany (K : PySem.W.Frag) : ∀ vs H Q E, sp_lany K vs H Q E → vs.length = 4 := len_I (ALen.cons (ALen.cons ALen.one))
def t_lany (K : PySem.W.Frag) : TS :=
    (tSeq (tAsg (tLst tNil) (gName 4))
    (tSeq (tFor (iRng1 (tCons (tOp rAdd (tC (.int 1)) (tCall (sp_ltake K) [] E0 (tCons (tVar 0) (tCons (tVar 3) tNil)))) tNil)) (gName 5)
    (tSeq (tAsg (tCB (rListOf K) (tCons (tVar 1) tNil)) (gName 6))
    (tSeq (tAsg (tLst tNil) (gName 7))
    (tSeq (tFor (iRng1 (tCons (tVar 2) tNil)) (gName 8)
    (tDrop (tBM K "list" rAppend (tVar 7) (tCons (tBM K "list" rPopAt (tVar 6) (tCons (tCall (sp_ltake K) [] E0 (tCons (tVar 0) (tCons (tCB (rLenL K) (tCons (tVar 6) tNil)) tNil))) tNil)) tNil))))
    (tIfS (tTest (tOp (rNotInD K) (tCB (rSortedI K) (tCons (tVar 7) tNil)) (tLc (iList K (tVar 4)) (gName 9) tYes (tCB (rListOf K) (tCons (tVar 9) tNil)) [9]))) (tDrop (tBM K "list" rAppend (tVar 4) (tCons (tCB (rTupOf K) (tCons (tCB (rSortedI K) (tCons (tVar 7) tNil)) tNil)) tNil))) tNext)))))
    (tRet (tCB (rTupOf K) (tCons (tVar 4) tNil)))))
theorem sx_lany {K : PySem.W.Frag} : SX ⟨K, E0, cx0⟩ R_lany (fz (rz (oT (rz (oT rI))))) (t_lany K) M_lany :=
    (s_seq (s_setO a_lany_4 (x_lst (x_lnil (r := (rz (oT rI))))))
    (s_seq (s_kill (Kl.and (Kl.fr a_lany_5) (Kl.and (Kl.ow a_lany_6) (Kl.and (Kl.ow a_lany_7) (Kl.fr a_lany_8)))) (s_for (vs := [5]) (x_rng1 (x_aone (x_is Cv.id (x_tOp v_add Cv.id (x_c fun _ => rfl) (x_is Cv.id (x_callI a_lany_0 ownI_q (x_pone Cv.id (x_var a_lany_3)))))))) (n_name a_lany_5 (by decide))
    (s_kill (Kl.and (Kl.fr a_lany_5) (Kl.and (Kl.ow a_lany_6) (Kl.and (Kl.ow a_lany_7) (Kl.fr a_lany_8)))) (s_seq (s_setO a_lany_6 (x_tCBF v_lstOfL (x_aone (x_varL (Late.bo a_lany_1)))))
    (s_seq (s_setO a_lany_7 (x_lst (x_lnil (r := rI))))
    (s_seq (s_kill (Kl.fr a_lany_8) (s_for (vs := [8]) (x_rng1 (x_aone (x_is Cv.id (x_var a_lany_2)))) (n_name a_lany_8 (by decide))
    (s_kill (Kl.fr a_lany_8) (s_drop (x_bm v_app ty_L nt_L ownN_q a_lany_7 (x_gone (x_bm v_popAt ty_L nt_L ownN_q a_lany_6 (x_gone (x_callI a_lany_0 ownI_q (x_pone Cv.id (x_tCB v_lenL (x_aone (x_varL (Late.ow a_lany_6))))))))))))))
    (s_if (x_test (x_tOp (v_ninD (da_Lr da_I) (da_Lr (da_L da_I)) (eq_L eq_I) (by decide)) Cv.ob (x_fz (x_tCBF v_sortL (x_aone (x_varL (Late.ow a_lany_7))))) (x_is Cv.ob (x_fz (x_prot ownN_q a_lany_4 (Sw.sO (Sw.sB (Sw.sF (Sw.sF (Sw.z (LkR.fr (LkR.ow (LkR.ow (LkR.fr (LkR.fr LkR.nil)))))))))) (x_lc (x_iLP (PrAt.sO (PrAt.sB (PrAt.sF (PrAt.sF PrAt.z))))) (Wp.cons (FrAt.sO (FrAt.sB (FrAt.sF (FrAt.sF (FrAt.sP (FrAt.sF (FrAt.sO (FrAt.sO (FrAt.sF FrAt.z))))))))) Wp.nil) (n_name (FrAt.sO (FrAt.sB (FrAt.sF (FrAt.sF (FrAt.sP (FrAt.sF (FrAt.sO (FrAt.sO (FrAt.sF FrAt.z))))))))) (by decide)) x_yes (x_fz (x_tCBF v_lstOfT (x_aone (x_is Cv.ob (x_var (FrAt.sO (FrAt.sB (FrAt.sF (FrAt.sF (FrAt.sP (FrAt.sF (FrAt.sO (FrAt.sO (FrAt.sF FrAt.z)))))))))))))))))))) (s_drop (x_bm v_app ty_L nt_L ownN_q a_lany_4 (x_gone (x_tCB v_tupOfL (x_aone (x_is Cv.ob (x_fz (x_tCBF v_sortL (x_aone (x_varL (Late.ow a_lany_7))))))))))) s_next)))))))
    (s_ret (x_tCB v_tupOfL (x_aone (x_varL (Late.ow a_lany_4)))))))
theorem rd_lany {K : PySem.W.Frag} {H : Hp} {vs : List V} {Q : VK} {E : XK} {N : List Str} (h : sp_lany K vs H Q E) (hN : N.length = 10 := by rfl) : t_lany K { nx := fun _ H' => Q .non H', rt := Q } (start N vs) H := by
  have h : spI K cx0 (oL3 rScr rI rI) (aCons (rd (oL rI)) (aCons (ir rI) (aOne (ir rI)))) (fz (rz (oT (rz (oT rI))))) (fun (s : ((List Int) × Int × Int)) (a : (List Int) × Int × Int) => (M_lany (some s, some a.1, some a.2.1, some a.2.2, none, none, none, none, none, none, ())).runI l_lany_0 none) vs H Q E := h
  refine d_I (dn := none) (ra := (aCons (rd (oL rI)) (aCons (ir rI) (aOne (ir rI))))) (e0 := fun (s : ((List Int) × Int × Int)) (a : (List Int) × Int × Int) => (some s, some a.1, some a.2.1, some a.2.2, none, none, none, none, none, none, ())) (sx_lany) a_lany_0 ?_ ?_ h
  · intro G H p ho st ws a k1 k2 k3 s hr
    obtain ⟨v1, _, rfl, h1, ⟨v2, _, rfl, h2, ⟨v3, rfl, h3⟩⟩⟩ := hr
    rw [show start N [.ref p, v1, v2, v3] = [some (.ref p), some v1, some v2, some v3, none, none, none, none, none, none] by simp [L2.start, hN]]
    exact e_io k1 k2 k3 rfl ⟨rfl, rfl⟩ (e_bo h1 bo_I (e_fr h2 (e_fr h3 (e_owN (e_frN (e_owN (e_owN (e_frN (e_frN e_nil)))))))))
  · intro b h; cases h
abbrev E_lshape : Type := Option ((List Int) × Int × Int) × Option Int × Option (List Int) × Option Int × Option (List (List Int)) × Option Int × Unit
def R_lshape : ERep E_lshape := (eIo 0 (oL3 rScr rI rI) (eFr rI (eFr (rz (oL rI)) (eFr rI (eFr (rz (oL (rz (oT rI)))) (eFr rI eNil))))))
abbrev l_lshape_0 : Ln E_lshape ((List Int) × Int × Int) := Ln.z
theorem a_lshape_0 : OwAt R_lshape 0 (ownI 0) (oL3 rScr rI rI) l_lshape_0 := OwAt.z
abbrev l_lshape_1 : Ln E_lshape Int := (Ln.s Ln.z)
theorem a_lshape_1 : FrAt R_lshape 1 rI l_lshape_1 := (FrAt.sO FrAt.z)
abbrev l_lshape_2 : Ln E_lshape (List Int) := (Ln.s (Ln.s Ln.z))
theorem a_lshape_2 : FrAt R_lshape 2 (rz (oL rI)) l_lshape_2 := (FrAt.sO (FrAt.sF FrAt.z))
abbrev l_lshape_3 : Ln E_lshape Int := (Ln.s (Ln.s (Ln.s Ln.z)))
theorem a_lshape_3 : FrAt R_lshape 3 rI l_lshape_3 := (FrAt.sO (FrAt.sF (FrAt.sF FrAt.z)))
abbrev l_lshape_4 : Ln E_lshape (List (List Int)) := (Ln.s (Ln.s (Ln.s (Ln.s Ln.z))))
theorem a_lshape_4 : FrAt R_lshape 4 (rz (oL (rz (oT rI)))) l_lshape_4 := (FrAt.sO (FrAt.sF (FrAt.sF (FrAt.sF FrAt.z))))
abbrev l_lshape_5 : Ln E_lshape Int := (Ln.s (Ln.s (Ln.s (Ln.s (Ln.s Ln.z)))))
theorem a_lshape_5 : FrAt R_lshape 5 rI l_lshape_5 := (FrAt.sO (FrAt.sF (FrAt.sF (FrAt.sF (FrAt.sF FrAt.z)))))
def M_lshape : E_lshape → So E_lshape ((List (List Int)) × (List Int)) :=
    (mSeq (mSet l_lshape_1 (mOp gAdd (mC (1 : Int)) (mCallI l_lshape_0 (fun s p => m_ltake s p) (mC (6 : Int)))))
    (mSeq (mSet l_lshape_2 (mCallI l_lshape_0 (fun s p => m_lcorners s p) (mOp gAdd (mOp gAdd (mVar l_lshape_1) (mC (1 : Int))) (mCallI l_lshape_0 (fun s p => m_ltake s p) (mC (5 : Int))))))
    (mSeq (mSet l_lshape_3 (mOp gIx (mUn szOk (mCons (mC (12 : Int)) (mCons (mC (12 : Int)) (mCons (mC (12 : Int)) (mCons (mC (40 : Int)) (mC [])))))) (mCallI l_lshape_0 (fun s p => m_ltake s p) (mC (4 : Int)))))
    (mSeq (mIfS (mOp gEq (mCallI l_lshape_0 (fun s p => m_ltake s p) (mC (2 : Int))) (mC (0 : Int))) (mRet (mUn some (mPair (mCallI l_lshape_0 (fun s p => m_lany s (p.1) (p.2.1) (p.2.2)) (mPair (mVar l_lshape_2) (mPair (mVar l_lshape_1) (mVar l_lshape_3)))) (mVar l_lshape_2)))) mNext)
    (mSeq (mSet l_lshape_4 (mCallI l_lshape_0 (fun s p => m_lgrown s (p.1) (p.2.1) (p.2.2)) (mPair (mVar l_lshape_2) (mPair (mVar l_lshape_1) (mVar l_lshape_3)))))
    (mRet (mUn some (mPair (mUn gId (mLc (mCallI l_lshape_0 (fun s p => m_lorder s p) (mUn gLen (mVar l_lshape_4))) (pN l_lshape_5) mYes (mOp gIx (mVar l_lshape_4) (mVar l_lshape_5)) (fun e => Ln.put l_lshape_5 none (id e)) (fun e e1 => (fun _ e1 => e1) e (Ln.put l_lshape_5 (Ln.get l_lshape_5 (id e)) e1)))) (mVar l_lshape_2)))))))))
def m_lshape (x0 : ((List Int) × Int × Int)) : Rs ((List Int) × Int × Int) ((List (List Int)) × (List Int)) := (M_lshape (some x0, none, none, none, none, none, ())).runI l_lshape_0 none
abbrev u_lshape (s : ((List Int) × Int × Int)) (p : Unit) : Rs ((List Int) × Int × Int) ((List (List Int)) × (List Int)) := m_lshape s
def sp_lshape (K : PySem.W.Frag) : Sp := spI K cx0 (oL3 rScr rI rI) aNil (fz (rz (oT2 (rz (oT (rz (oT rI)))) (rz (oL rI))))) u_lshape
theorem len_lshape (K : PySem.W.Frag) : ∀ vs H Q E, sp_lshape K vs H Q E → vs.length = 1 := len_I ALen.nil
def t_lshape (K : PySem.W.Frag) : TS :=
    (tSeq (tAsg (tOp rAdd (tC (.int 1)) (tCall (sp_ltake K) [] E0 (tCons (tVar 0) (tCons (tC (.int 6)) tNil)))) (gName 1))
    (tSeq (tAsg (tCall (sp_lcorners K) [] E0 (tCons (tVar 0) (tCons (tOp rAdd (tOp rAdd (tVar 1) (tC (.int 1))) (tCall (sp_ltake K) [] E0 (tCons (tVar 0) (tCons (tC (.int 5)) tNil)))) tNil))) (gName 2))
    (tSeq (tAsg (tOp (rIxL K) (tLst (tCons (tC (.int 12)) (tCons (tC (.int 12)) (tCons (tC (.int 12)) (tCons (tC (.int 40)) tNil))))) (tCall (sp_ltake K) [] E0 (tCons (tVar 0) (tCons (tC (.int 4)) tNil)))) (gName 3))
    (tSeq (tIfS (tTest (tOp rEq (tCall (sp_ltake K) [] E0 (tCons (tVar 0) (tCons (tC (.int 2)) tNil))) (tC (.int 0)))) (tRet (tTup (tCons (tCall (sp_lany K) [] E0 (tCons (tVar 0) (tCons (tVar 2) (tCons (tVar 1) (tCons (tVar 3) tNil))))) (tCons (tVar 2) tNil)))) tNext)
    (tSeq (tAsg (tCall (sp_lgrown K) [] E0 (tCons (tVar 0) (tCons (tVar 2) (tCons (tVar 1) (tCons (tVar 3) tNil))))) (gName 4))
    (tRet (tTup (tCons (tCB (rTupOf K) (tCons (tLc (iList K (tCall (sp_lorder K) [] E0 (tCons (tVar 0) (tCons (tCB (rLenL K) (tCons (tVar 4) tNil)) tNil)))) (gName 5) tYes (tOp (rIxL K) (tVar 4) (tVar 5)) [5]) tNil)) (tCons (tVar 2) tNil)))))))))
theorem sx_lshape {K : PySem.W.Frag} : SX ⟨K, E0, cx0⟩ R_lshape (fz (rz (oT2 (rz (oT (rz (oT rI)))) (rz (oL rI))))) (t_lshape K) M_lshape :=
    (s_seq (s_set a_lshape_1 (x_tOp v_add Cv.id (x_c fun _ => rfl) (x_is Cv.id (x_callI a_lshape_0 ownI_q (x_pone Cv.id (x_c fun _ => rfl))))))
    (s_seq (s_set a_lshape_2 (x_fz (x_callIF a_lshape_0 ownI_q (x_pone Cv.id (x_tOp v_add Cv.id (x_tOp v_add Cv.id (x_var a_lshape_1) (x_is Cv.id (x_c fun _ => rfl))) (x_is Cv.id (x_callI a_lshape_0 ownI_q (x_pone Cv.id (x_c fun _ => rfl)))))))))
    (s_seq (s_set a_lshape_3 (x_tOp v_ixL Cv.ob (x_fz (x_lst (x_lcons (x_c fun _ => rfl) (x_lcons (x_c fun _ => rfl) (x_lcons (x_c fun _ => rfl) (x_lcons (x_c fun _ => rfl) x_lnil)))))) (x_is Cv.id (x_callI a_lshape_0 ownI_q (x_pone Cv.id (x_c fun _ => rfl))))))
    (s_seq (s_if (x_test (x_tOp v_eqI Cv.id (x_callI a_lshape_0 ownI_q (x_pone Cv.id (x_c fun _ => rfl))) (x_is Cv.id (x_c fun _ => rfl)))) (s_ret (x_tup2 (x_p2 (x_callI a_lshape_0 ownI_q (x_pcons Cv.ob (x_var a_lshape_2) (x_pcons Cv.id (x_var a_lshape_1) (x_pone Cv.id (x_var a_lshape_3))))) (x_var a_lshape_2)))) s_next)
    (s_seq (s_set a_lshape_4 (x_fz (x_callIF a_lshape_0 ownI_q (x_pcons Cv.ob (x_var a_lshape_2) (x_pcons Cv.id (x_var a_lshape_1) (x_pone Cv.id (x_var a_lshape_3)))))))
    (s_ret (x_tup2 (x_p2 (x_tCB v_tupOfL (x_aone (x_is Cv.ob (x_fz (x_lc (x_iL (x_fz (x_callIF a_lshape_0 ownI_q (x_pone Cv.id (x_tCB v_lenL (x_aone (x_is Cv.ob (x_var a_lshape_4)))))))) (Wp.cons a_lshape_5 Wp.nil) (n_name a_lshape_5 (by decide)) x_yes (x_tOp v_ixL Cv.ob (x_var a_lshape_4) (x_is Cv.id (x_var a_lshape_5)))))))) (x_var a_lshape_2)))))))))
theorem rd_lshape {K : PySem.W.Frag} {H : Hp} {vs : List V} {Q : VK} {E : XK} {N : List Str} (h : sp_lshape K vs H Q E) (hN : N.length = 6 := by rfl) : t_lshape K { nx := fun _ H' => Q .non H', rt := Q } (start N vs) H := by
  have h : spI K cx0 (oL3 rScr rI rI) aNil (fz (rz (oT2 (rz (oT (rz (oT rI)))) (rz (oL rI))))) (fun (s : ((List Int) × Int × Int)) (a : Unit) => (M_lshape (some s, none, none, none, none, none, ())).runI l_lshape_0 none) vs H Q E := h
  refine d_I (dn := none) (ra := aNil) (e0 := fun (s : ((List Int) × Int × Int)) (a : Unit) => (some s, none, none, none, none, none, ())) (sx_lshape) a_lshape_0 ?_ ?_ h
  · intro G H p ho st ws a k1 k2 k3 s hr
    obtain rfl := hr
    rw [show start N [.ref p] = [some (.ref p), none, none, none, none, none] by simp [L2.start, hN]]
    exact e_io k1 k2 k3 rfl ⟨rfl, rfl⟩ (e_frN (e_frN (e_frN (e_frN (e_frN e_nil)))))
  · intro b h; cases h
abbrev E_lrows : Type := Option (List (List Int)) × Option (List Int) × Option (List (Int × (List Int))) × Option (List (List Int)) × Option (List ((List Int) × Bool)) × Option Int × Unit
def R_lrows : ERep E_lrows := (eFr (rz (oT (rz (oT rI)))) (eBo (oL rI) (eOw (oL (rz (oT2 rI (rz (oT rI))))) (eOw (oL (rz (oT rI))) (eOw (oD rB) (eFr rI eNil))))))
abbrev l_lrows_0 : Ln E_lrows (List (List Int)) := Ln.z
theorem a_lrows_0 : FrAt R_lrows 0 (rz (oT (rz (oT rI)))) l_lrows_0 := FrAt.z
abbrev l_lrows_1 : Ln E_lrows (List Int) := (Ln.s Ln.z)
theorem a_lrows_1 : BoAt R_lrows 1 (oL rI) l_lrows_1 := (BoAt.sF BoAt.z)
abbrev l_lrows_2 : Ln E_lrows (List (Int × (List Int))) := (Ln.s (Ln.s Ln.z))
theorem a_lrows_2 : OwAt R_lrows 2 ownN (oL (rz (oT2 rI (rz (oT rI))))) l_lrows_2 := (OwAt.sF (OwAt.sB OwAt.z))
abbrev l_lrows_3 : Ln E_lrows (List (List Int)) := (Ln.s (Ln.s (Ln.s Ln.z)))
theorem a_lrows_3 : OwAt R_lrows 3 ownN (oL (rz (oT rI))) l_lrows_3 := (OwAt.sF (OwAt.sB (OwAt.sO OwAt.z)))
abbrev l_lrows_4 : Ln E_lrows (List ((List Int) × Bool)) := (Ln.s (Ln.s (Ln.s (Ln.s Ln.z))))
theorem a_lrows_4 : OwAt R_lrows 4 ownN (oD rB) l_lrows_4 := (OwAt.sF (OwAt.sB (OwAt.sO (OwAt.sO OwAt.z))))
abbrev l_lrows_5 : Ln E_lrows Int := (Ln.s (Ln.s (Ln.s (Ln.s (Ln.s Ln.z)))))
theorem a_lrows_5 : FrAt R_lrows 5 rI l_lrows_5 := (FrAt.sF (FrAt.sB (FrAt.sO (FrAt.sO (FrAt.sO FrAt.z)))))
def M_lrows : E_lrows → So E_lrows (List (Int × (List Int))) :=
    (mSeq (mSet l_lrows_2 (mUn szOk (mC ([] : List (Int × (List Int))))))
    (mSeq (mSet l_lrows_3 (mUn szOk (mC ([] : List (List Int)))))
    (mSeq (mSet l_lrows_4 (mC ([] : (List ((List Int) × Bool)))))
    (mSeq (mKill (fun e => (Ln.put l_lrows_5 none e)) (mFor (mVar l_lrows_1) (pN l_lrows_5)
    (mKill (fun e => (Ln.put l_lrows_5 none e)) (mSeq (mDrop (mBM l_lrows_2 gApp (mUn some (mPair (mVar l_lrows_5) (mUnw (mCall (fun p => m_lbrings (p.1) (p.2.1) (p.2.2)) (mPairL l_lrows_3 (mPairL l_lrows_4 (mOp gIx (mVar l_lrows_0) (mVar l_lrows_5))))))))))
    (mSeq (mDrop (mBM l_lrows_3 gApp (mOp gIx (mVar l_lrows_0) (mVar l_lrows_5))))
    (mDrop (mCallI l_lrows_4 (fun s p => m_lput s p) (mOp gIx (mVar l_lrows_0) (mVar l_lrows_5)))))))))
    (mRet (mMove l_lrows_2))))))
def m_lrows (x0 : (List (List Int))) (x1 : (List Int)) : Rs Unit (List (Int × (List Int))) := (M_lrows (some x0, some x1, none, none, none, none, ())).run none
abbrev u_lrows (p : (List (List Int)) × (List Int)) : Rs Unit (List (Int × (List Int))) := m_lrows (p.1) (p.2)
def sp_lrows (K : PySem.W.Frag) : Sp := spD K cx0 (aCons (ir (rz (oT (rz (oT rI))))) (aOne (rd (oL rI)))) (fs (oL (rz (oT2 rI (rz (oT rI)))))) u_lrows
theorem len_lrows (K : PySem.W.Frag) : ∀ vs H Q E, sp_lrows K vs H Q E → vs.length = 2 := len_D (ALen.cons ALen.one)
def t_lrows (K : PySem.W.Frag) : TS :=
    (tSeq (tAsg (tLst tNil) (gName 2))
    (tSeq (tAsg (tLst tNil) (gName 3))
    (tSeq (tAsg tDNewT (gName 4))
    (tSeq (tFor (iList K (tVar 1)) (gName 5)
    (tSeq (tDrop (tBM K "list" rAppend (tVar 2) (tCons (tTup (tCons (tVar 5) (tCons (tCall (sp_lbrings K) [] E0 (tCons (tVar 3) (tCons (tVar 4) (tCons (tOp (rIxT K) (tVar 0) (tVar 5)) tNil)))) tNil))) tNil)))
    (tSeq (tDrop (tBM K "list" rAppend (tVar 3) (tCons (tOp (rIxT K) (tVar 0) (tVar 5)) tNil)))
    (tDrop (tCall (sp_lput K) [] E0 (tCons (tVar 4) (tCons (tOp (rIxT K) (tVar 0) (tVar 5)) tNil)))))))
    (tRet (tVar 2))))))
theorem sx_lrows {K : PySem.W.Frag} : SX ⟨K, E0, cx0⟩ R_lrows (fs (oL (rz (oT2 rI (rz (oT rI)))))) (t_lrows K) M_lrows :=
    (s_seq (s_setO a_lrows_2 (x_lst (x_lnil (r := (rz (oT2 rI (rz (oT rI))))))))
    (s_seq (s_setO a_lrows_3 (x_lst (x_lnil (r := (rz (oT rI))))))
    (s_seq (s_setO a_lrows_4 (x_dnew (r := rB)))
    (s_seq (s_kill (Kl.fr a_lrows_5) (s_for (vs := [5]) (x_iLB a_lrows_1) (n_name a_lrows_5 (by decide))
    (s_kill (Kl.fr a_lrows_5) (s_seq (s_drop (x_bm v_app ty_L nt_L ownN_q a_lrows_2 (x_gone (x_tup2 (x_p2 (x_var a_lrows_5) (x_unw (x_call (x_aconsL (Late.ow a_lrows_3) (x_aconsL (Late.ow a_lrows_4) (x_aone (x_is Cv.id (x_tOp v_ixT Cv.ob (x_var a_lrows_0) (x_is Cv.id (x_var a_lrows_5))))))))))))))
    (s_seq (s_drop (x_bm v_app ty_L nt_L ownN_q a_lrows_3 (x_gone (x_tOp v_ixT Cv.ob (x_var a_lrows_0) (x_is Cv.id (x_var a_lrows_5))))))
    (s_drop (x_callI a_lrows_4 ownN_q (x_pone Cv.id (x_tOp v_ixT Cv.ob (x_var a_lrows_0) (x_is Cv.id (x_var a_lrows_5)))))))))))
    (s_ret (x_move a_lrows_2))))))
theorem rd_lrows {K : PySem.W.Frag} {H : Hp} {vs : List V} {Q : VK} {E : XK} {N : List Str} (h : sp_lrows K vs H Q E) (hN : N.length = 6 := by rfl) : t_lrows K { nx := fun _ H' => Q .non H', rt := Q } (start N vs) H := by
  have h : spD K cx0 (aCons (ir (rz (oT (rz (oT rI))))) (aOne (rd (oL rI)))) (fs (oL (rz (oT2 rI (rz (oT rI)))))) (fun (a : (List (List Int)) × (List Int)) => (M_lrows (some a.1, some a.2, none, none, none, none, ())).run none) vs H Q E := h
  refine d_D (dn := none) (ra := (aCons (ir (rz (oT (rz (oT rI))))) (aOne (rd (oL rI))))) (e0 := fun (a : (List (List Int)) × (List Int)) => (some a.1, some a.2, none, none, none, none, ())) (sx_lrows) ?_ ?_ h
  · intro G H vs a s hr
    obtain ⟨v0, _, rfl, h0, ⟨v1, rfl, h1⟩⟩ := hr
    rw [show start N [v0, v1] = [some v0, some v1, none, none, none, none] by simp [L2.start, hN]]
    exact (e_fr h0 (e_bo h1 bo_D (e_owN (e_owN (e_owN (e_frN e_nil))))))
  · intro b h; cases h
abbrev E_lnumbered : Type := Option ((List Int) × Int × Int) × Option (List (List Int)) × Option (List Int) × Option (List (List Int)) × Option Int × Unit
def R_lnumbered : ERep E_lnumbered := (eIo 0 (oL3 rScr rI rI) (eBo (oL (rz (oT rI))) (eFr (rz (oL rI)) (eFr (rz (oT (rz (oT rI)))) (eFr rI eNil)))))
abbrev l_lnumbered_0 : Ln E_lnumbered ((List Int) × Int × Int) := Ln.z
theorem a_lnumbered_0 : OwAt R_lnumbered 0 (ownI 0) (oL3 rScr rI rI) l_lnumbered_0 := OwAt.z
abbrev l_lnumbered_1 : Ln E_lnumbered (List (List Int)) := (Ln.s Ln.z)
theorem a_lnumbered_1 : BoAt R_lnumbered 1 (oL (rz (oT rI))) l_lnumbered_1 := (BoAt.sO BoAt.z)
abbrev l_lnumbered_2 : Ln E_lnumbered (List Int) := (Ln.s (Ln.s Ln.z))
theorem a_lnumbered_2 : FrAt R_lnumbered 2 (rz (oL rI)) l_lnumbered_2 := (FrAt.sO (FrAt.sB FrAt.z))
abbrev l_lnumbered_3 : Ln E_lnumbered (List (List Int)) := (Ln.s (Ln.s (Ln.s Ln.z)))
theorem a_lnumbered_3 : FrAt R_lnumbered 3 (rz (oT (rz (oT rI)))) l_lnumbered_3 := (FrAt.sO (FrAt.sB (FrAt.sF FrAt.z)))
abbrev l_lnumbered_4 : Ln E_lnumbered Int := (Ln.s (Ln.s (Ln.s (Ln.s Ln.z))))
theorem a_lnumbered_4 : FrAt R_lnumbered 4 rI l_lnumbered_4 := (FrAt.sO (FrAt.sB (FrAt.sF (FrAt.sF FrAt.z))))
def M_lnumbered : E_lnumbered → So E_lnumbered ((List (List Int)) × (List (Int × (List Int)))) :=
    (mSeq (mSet l_lnumbered_2 (mCallI l_lnumbered_0 (fun s p => m_lorder s p) (mUn gLen (mVar l_lnumbered_1))))
    (mSeq (mSet l_lnumbered_3 (mUn gId (mLc (mVar l_lnumbered_2) (pN l_lnumbered_4) mYes (mOpL gIx l_lnumbered_1 (mVar l_lnumbered_4)) (fun e => Ln.put l_lnumbered_4 none (id e)) (fun e e1 => (fun _ e1 => e1) e (Ln.put l_lnumbered_4 (Ln.get l_lnumbered_4 (id e)) e1)))))
    (mRet (mUn some (mPair (mVar l_lnumbered_3) (mCall (fun p => m_lrows (p.1) (p.2)) (mPair (mVar l_lnumbered_3) (mLc (mRng1 (mUn gLen (mVar l_lnumbered_1))) (pN l_lnumbered_4) mYes (mOp gIdx (mVar l_lnumbered_2) (mVar l_lnumbered_4)) (fun e => Ln.put l_lnumbered_4 none (id e)) (fun e e1 => (fun _ e1 => e1) e (Ln.put l_lnumbered_4 (Ln.get l_lnumbered_4 (id e)) e1))))))))))
def m_lnumbered (x0 : ((List Int) × Int × Int)) (x1 : (List (List Int))) : Rs ((List Int) × Int × Int) ((List (List Int)) × (List (Int × (List Int)))) := (M_lnumbered (some x0, some x1, none, none, none, ())).runI l_lnumbered_0 none
abbrev u_lnumbered (s : ((List Int) × Int × Int)) (p : (List (List Int))) : Rs ((List Int) × Int × Int) ((List (List Int)) × (List (Int × (List Int)))) := m_lnumbered s p
def sp_lnumbered (K : PySem.W.Frag) : Sp := spI K cx0 (oL3 rScr rI rI) (aOne (rd (oL (rz (oT rI))))) (fz (rz (oT2 (rz (oT (rz (oT rI)))) (rz (oL (rz (oT2 rI (rz (oT rI))))))))) u_lnumbered
theorem len_lnumbered (K : PySem.W.Frag) : ∀ vs H Q E, sp_lnumbered K vs H Q E → vs.length = 2 := len_I ALen.one
def t_lnumbered (K : PySem.W.Frag) : TS :=
    (tSeq (tAsg (tCall (sp_lorder K) [] E0 (tCons (tVar 0) (tCons (tCB (rLenL K) (tCons (tVar 1) tNil)) tNil))) (gName 2))
    (tSeq (tAsg (tCB (rTupOf K) (tCons (tLc (iList K (tVar 2)) (gName 4) tYes (tOp (rIxL K) (tVar 1) (tVar 4)) [4]) tNil)) (gName 3))
    (tRet (tTup (tCons (tVar 3) (tCons (tCall (sp_lrows K) [] E0 (tCons (tVar 3) (tCons (tLc (iRng1 (tCons (tCB (rLenL K) (tCons (tVar 1) tNil)) tNil)) (gName 4) tYes (tBM K "list" (rIndex K) (tVar 2) (tCons (tVar 4) tNil)) [4]) tNil))) tNil))))))
theorem sx_lnumbered {K : PySem.W.Frag} : SX ⟨K, E0, cx0⟩ R_lnumbered (fz (rz (oT2 (rz (oT (rz (oT rI)))) (rz (oL (rz (oT2 rI (rz (oT rI))))))))) (t_lnumbered K) M_lnumbered :=
    (s_seq (s_set a_lnumbered_2 (x_fz (x_callIF a_lnumbered_0 ownI_q (x_pone Cv.id (x_tCB v_lenL (x_aone (x_varL (Late.bo a_lnumbered_1))))))))
    (s_seq (s_set a_lnumbered_3 (x_tCB v_tupOfL (x_aone (x_is Cv.ob (x_fz (x_lc (x_iL (x_var a_lnumbered_2)) (Wp.cons a_lnumbered_4 Wp.nil) (n_name a_lnumbered_4 (by decide)) x_yes (x_tOpL v_ixL (Late.bo a_lnumbered_1) (x_is Cv.id (x_var a_lnumbered_4)))))))))
    (s_ret (x_tup2 (x_p2 (x_var a_lnumbered_3) (x_fz (x_callF (x_acons Cv.id (x_var a_lnumbered_3) (x_aone (x_is Cv.ob (x_fz (x_lc (x_rng1 (x_aone (x_is Cv.id (x_tCB v_lenL (x_aone (x_varL (Late.bo a_lnumbered_1))))))) (Wp.cons a_lnumbered_4 Wp.nil) (n_name a_lnumbered_4 (by decide)) x_yes (x_idx (x_var a_lnumbered_2) (x_gone (x_var a_lnumbered_4)))))))))))))))
theorem rd_lnumbered {K : PySem.W.Frag} {H : Hp} {vs : List V} {Q : VK} {E : XK} {N : List Str} (h : sp_lnumbered K vs H Q E) (hN : N.length = 5 := by rfl) : t_lnumbered K { nx := fun _ H' => Q .non H', rt := Q } (start N vs) H := by
  have h : spI K cx0 (oL3 rScr rI rI) (aOne (rd (oL (rz (oT rI))))) (fz (rz (oT2 (rz (oT (rz (oT rI)))) (rz (oL (rz (oT2 rI (rz (oT rI))))))))) (fun (s : ((List Int) × Int × Int)) (a : (List (List Int))) => (M_lnumbered (some s, some a, none, none, none, ())).runI l_lnumbered_0 none) vs H Q E := h
  refine d_I (dn := none) (ra := (aOne (rd (oL (rz (oT rI)))))) (e0 := fun (s : ((List Int) × Int × Int)) (a : (List (List Int))) => (some s, some a, none, none, none, ())) (sx_lnumbered) a_lnumbered_0 ?_ ?_ h
  · intro G H p ho st ws a k1 k2 k3 s hr
    obtain ⟨v1, rfl, h1⟩ := hr
    rw [show start N [.ref p, v1] = [some (.ref p), some v1, none, none, none] by simp [L2.start, hN]]
    exact e_io k1 k2 k3 rfl ⟨rfl, rfl⟩ (e_bo h1 bo_I (e_frN (e_frN (e_frN e_nil))))
  · intro b h; cases h
abbrev E_llaid : Type := Option ((List Int) × Int × Int) × Option Int × Option Int × Option (List Int) × Unit
def R_llaid : ERep E_llaid := (eIo 0 (oL3 rScr rI rI) (eFr rI (eFr rI (eFr (rz (oL rI)) eNil))))
abbrev l_llaid_0 : Ln E_llaid ((List Int) × Int × Int) := Ln.z
theorem a_llaid_0 : OwAt R_llaid 0 (ownI 0) (oL3 rScr rI rI) l_llaid_0 := OwAt.z
abbrev l_llaid_1 : Ln E_llaid Int := (Ln.s Ln.z)
theorem a_llaid_1 : FrAt R_llaid 1 rI l_llaid_1 := (FrAt.sO FrAt.z)
abbrev l_llaid_2 : Ln E_llaid Int := (Ln.s (Ln.s Ln.z))
theorem a_llaid_2 : FrAt R_llaid 2 rI l_llaid_2 := (FrAt.sO (FrAt.sF FrAt.z))
abbrev l_llaid_3 : Ln E_llaid (List Int) := (Ln.s (Ln.s (Ln.s Ln.z)))
theorem a_llaid_3 : FrAt R_llaid 3 (rz (oL rI)) l_llaid_3 := (FrAt.sO (FrAt.sF (FrAt.sF FrAt.z)))
def M_llaid : E_llaid → So E_llaid ((List (List Int)) × (List (Int × (List Int))) × (List Int)) :=
    (mSeq (mSet l_llaid_3 (mCallI l_llaid_0 (fun s p => m_lcorners s p) (mOp gAdd (mOp gAdd (mVar l_llaid_1) (mC (1 : Int))) (mCallI l_llaid_0 (fun s p => m_ltake s p) (mC (5 : Int))))))
    (mRet (mOp gCat21 (mCallI l_llaid_0 (fun s p => m_lnumbered s p) (mCallI l_llaid_0 (fun s p => m_lgrown s (p.1) (p.2.1) (p.2.2)) (mPair (mVar l_llaid_3) (mPair (mVar l_llaid_1) (mVar l_llaid_2))))) (mUn szOk (mCons (mVar l_llaid_3) (mC []))))))
def m_llaid (x0 : ((List Int) × Int × Int)) (x1 : Int) (x2 : Int) : Rs ((List Int) × Int × Int) ((List (List Int)) × (List (Int × (List Int))) × (List Int)) := (M_llaid (some x0, some x1, some x2, none, ())).runI l_llaid_0 none
abbrev u_llaid (s : ((List Int) × Int × Int)) (p : Int × Int) : Rs ((List Int) × Int × Int) ((List (List Int)) × (List (Int × (List Int))) × (List Int)) := m_llaid s (p.1) (p.2)
def sp_llaid (K : PySem.W.Frag) : Sp := spI K cx0 (oL3 rScr rI rI) (aCons (ir rI) (aOne (ir rI))) (fz (rz (oT3 (rz (oT (rz (oT rI)))) (rz (oL (rz (oT2 rI (rz (oT rI)))))) (rz (oL rI))))) u_llaid
theorem len_llaid (K : PySem.W.Frag) : ∀ vs H Q E, sp_llaid K vs H Q E → vs.length = 3 := len_I (ALen.cons ALen.one)
def t_llaid (K : PySem.W.Frag) : TS :=
    (tSeq (tAsg (tCall (sp_lcorners K) [] E0 (tCons (tVar 0) (tCons (tOp rAdd (tOp rAdd (tVar 1) (tC (.int 1))) (tCall (sp_ltake K) [] E0 (tCons (tVar 0) (tCons (tC (.int 5)) tNil)))) tNil))) (gName 3))
    (tRet (tOp (rCatA K) (tCall (sp_lnumbered K) [] E0 (tCons (tVar 0) (tCons (tCall (sp_lgrown K) [] E0 (tCons (tVar 0) (tCons (tVar 3) (tCons (tVar 1) (tCons (tVar 2) tNil))))) tNil))) (tTup (tCons (tVar 3) tNil)))))
theorem sx_llaid {K : PySem.W.Frag} : SX ⟨K, E0, cx0⟩ R_llaid (fz (rz (oT3 (rz (oT (rz (oT rI)))) (rz (oL (rz (oT2 rI (rz (oT rI)))))) (rz (oL rI))))) (t_llaid K) M_llaid :=
    (s_seq (s_set a_llaid_3 (x_fz (x_callIF a_llaid_0 ownI_q (x_pone Cv.id (x_tOp v_add Cv.id (x_tOp v_add Cv.id (x_var a_llaid_1) (x_is Cv.id (x_c fun _ => rfl))) (x_is Cv.id (x_callI a_llaid_0 ownI_q (x_pone Cv.id (x_c fun _ => rfl)))))))))
    (s_ret (x_tOp v_cat21 Cv.id (x_callI a_llaid_0 ownI_q (x_pone Cv.ob (x_fz (x_callIF a_llaid_0 ownI_q (x_pcons Cv.ob (x_var a_llaid_3) (x_pcons Cv.id (x_var a_llaid_1) (x_pone Cv.id (x_var a_llaid_2)))))))) (x_is Cv.id (x_tup (x_lcons (x_var a_llaid_3) x_lnil))))))
theorem rd_llaid {K : PySem.W.Frag} {H : Hp} {vs : List V} {Q : VK} {E : XK} {N : List Str} (h : sp_llaid K vs H Q E) (hN : N.length = 4 := by rfl) : t_llaid K { nx := fun _ H' => Q .non H', rt := Q } (start N vs) H := by
  have h : spI K cx0 (oL3 rScr rI rI) (aCons (ir rI) (aOne (ir rI))) (fz (rz (oT3 (rz (oT (rz (oT rI)))) (rz (oL (rz (oT2 rI (rz (oT rI)))))) (rz (oL rI))))) (fun (s : ((List Int) × Int × Int)) (a : Int × Int) => (M_llaid (some s, some a.1, some a.2, none, ())).runI l_llaid_0 none) vs H Q E := h
  refine d_I (dn := none) (ra := (aCons (ir rI) (aOne (ir rI)))) (e0 := fun (s : ((List Int) × Int × Int)) (a : Int × Int) => (some s, some a.1, some a.2, none, ())) (sx_llaid) a_llaid_0 ?_ ?_ h
  · intro G H p ho st ws a k1 k2 k3 s hr
    obtain ⟨v1, _, rfl, h1, ⟨v2, rfl, h2⟩⟩ := hr
    rw [show start N [.ref p, v1, v2] = [some (.ref p), some v1, some v2, none] by simp [L2.start, hN]]
    exact e_io k1 k2 k3 rfl ⟨rfl, rfl⟩ (e_fr h1 (e_fr h2 (e_frN e_nil)))
  · intro b h; cases h
abbrev E_lword : Type := Option Xc × Option (List Str) × Option (List Bool) × Option (List Str) × Option Bool × Option Int × Unit
def R_lword (cx : Str → Addr) : ERep E_lword := (eFr (rX cx) (eFr (rz (oL rS)) (eFr (rz (oL rB)) (eFr (rz (oL rS)) (eFr rB (eFr rI eNil))))))
abbrev l_lword_0 : Ln E_lword Xc := Ln.z
theorem a_lword_0 {cx : Str → Addr} : FrAt (R_lword cx) 0 (rX cx) l_lword_0 := FrAt.z
abbrev l_lword_1 : Ln E_lword (List Str) := (Ln.s Ln.z)
theorem a_lword_1 {cx : Str → Addr} : FrAt (R_lword cx) 1 (rz (oL rS)) l_lword_1 := (FrAt.sF FrAt.z)
abbrev l_lword_2 : Ln E_lword (List Bool) := (Ln.s (Ln.s Ln.z))
theorem a_lword_2 {cx : Str → Addr} : FrAt (R_lword cx) 2 (rz (oL rB)) l_lword_2 := (FrAt.sF (FrAt.sF FrAt.z))
abbrev l_lword_3 : Ln E_lword (List Str) := (Ln.s (Ln.s (Ln.s Ln.z)))
theorem a_lword_3 {cx : Str → Addr} : FrAt (R_lword cx) 3 (rz (oL rS)) l_lword_3 := (FrAt.sF (FrAt.sF (FrAt.sF FrAt.z)))
abbrev l_lword_4 : Ln E_lword Bool := (Ln.s (Ln.s (Ln.s (Ln.s Ln.z))))
theorem a_lword_4 {cx : Str → Addr} : FrAt (R_lword cx) 4 rB l_lword_4 := (FrAt.sF (FrAt.sF (FrAt.sF (FrAt.sF FrAt.z))))
abbrev l_lword_5 : Ln E_lword Int := (Ln.s (Ln.s (Ln.s (Ln.s (Ln.s Ln.z)))))
theorem a_lword_5 {cx : Str → Addr} : FrAt (R_lword cx) 5 rI l_lword_5 := (FrAt.sF (FrAt.sF (FrAt.sF (FrAt.sF (FrAt.sF FrAt.z)))))
def M_lword : E_lword → So E_lword Str :=
    (mSeq (mSet l_lword_1 (mUn szOk (mCons (mC ("NoShape" : Str)) (mCons (mC ("NoFace" : Str)) (mCons (mC ("NoPiece" : Str)) (mCons (mC ("NoCorner" : Str)) (mCons (mC ("NotClosed" : Str)) (mCons (mC ("TooMany" : Str)) (mC [])))))))))
    (mSeq (mSet l_lword_2 (mUn szOk (mCons (mUn (gIsX xNs "NoShape") (mPair (mVar l_lword_0) (mC ()))) (mCons (mUn (gIsX xNs "NoFace") (mPair (mVar l_lword_0) (mC ()))) (mCons (mUn (gIsX xNs "NoPiece") (mPair (mVar l_lword_0) (mC ()))) (mC []))))))
    (mSeq (mSet l_lword_2 (mOp gCat (mVar l_lword_2) (mUn szOk (mCons (mUn (gIsX xNs "NoCorner") (mPair (mVar l_lword_0) (mC ()))) (mCons (mUn (gIsX xNs "NotClosed") (mPair (mVar l_lword_0) (mC ()))) (mCons (mUn (gIsX xNs "TooMany") (mPair (mVar l_lword_0) (mC ()))) (mC [])))))))
    (mSeq (mSet l_lword_3 (mLc (mRng1 (mC (6 : Int))) (pN l_lword_5) (mOp gIx (mVar l_lword_2) (mVar l_lword_5)) (mOp gIx (mVar l_lword_1) (mVar l_lword_5)) (fun e => Ln.put l_lword_5 none (id e)) (fun e e1 => (fun _ e1 => e1) e (Ln.put l_lword_5 (Ln.get l_lword_5 (id e)) e1))))
    (mSeq (mSet l_lword_4 (mUn (gIsXT xNs ["NoOrder", "NoWish", "NoFit", "NoShrink", "NoText", "NoRow", "NoName"]) (mPair (mVar l_lword_0) (mC ()))))
    (mSeq (mIfB (mOr (mOp gNe (mUn gLen (mVar l_lword_3)) (mC (1 : Int))) (mOr (mVar l_lword_4) (mNot (mUn (gIsV xNs) (mPair (mVar l_lword_0) (mC ())))))) (mRet (mC ("other" : Str))) mNext)
    (mRet (mOp gIx (mVar l_lword_3) (mC (0 : Int))))))))))
def m_lword (x0 : Xc) : Rs Unit Str := (M_lword (some x0, none, none, none, none, none, ())).run none
abbrev u_lword (p : Xc) : Rs Unit Str := m_lword p
def sp_lword (K : PySem.W.Frag) (cx : Str → Addr) : Sp := spD K cx0 (aOne (ir (rX cx))) (fz rS) u_lword
theorem len_lword (K : PySem.W.Frag) (cx : Str → Addr) : ∀ vs H Q E, sp_lword K cx vs H Q E → vs.length = 1 := len_D ALen.one
def t_lword (K : PySem.W.Frag) (cx : Str → Addr) : TS :=
    (tSeq (tAsg (tLst (tCons (tC (.str "NoShape")) (tCons (tC (.str "NoFace")) (tCons (tC (.str "NoPiece")) (tCons (tC (.str "NoCorner")) (tCons (tC (.str "NotClosed")) (tCons (tC (.str "TooMany")) tNil))))))) (gName 1))
    (tSeq (tAsg (tLst (tCons (tCB (rIsX K) (tCons (tVar 0) (tCons (tC (.ref (cx "NoShape"))) tNil))) (tCons (tCB (rIsX K) (tCons (tVar 0) (tCons (tC (.ref (cx "NoFace"))) tNil))) (tCons (tCB (rIsX K) (tCons (tVar 0) (tCons (tC (.ref (cx "NoPiece"))) tNil))) tNil)))) (gName 2))
    (tSeq (tAsg (tOp rCat (tVar 2) (tLst (tCons (tCB (rIsX K) (tCons (tVar 0) (tCons (tC (.ref (cx "NoCorner"))) tNil))) (tCons (tCB (rIsX K) (tCons (tVar 0) (tCons (tC (.ref (cx "NotClosed"))) tNil))) (tCons (tCB (rIsX K) (tCons (tVar 0) (tCons (tC (.ref (cx "TooMany"))) tNil))) tNil))))) (gName 2))
    (tSeq (tAsg (tLc (iRng1 (tCons (tC (.int 6)) tNil)) (gName 5) (tB (tOp (rIxL K) (tVar 2) (tVar 5))) (tOp (rIxL K) (tVar 1) (tVar 5)) [5]) (gName 3))
    (tSeq (tAsg (tCB (rIsXT K) (tCons (tVar 0) (tCons (tTup (tCons (tC (.ref (cx "NoOrder"))) (tCons (tC (.ref (cx "NoWish"))) (tCons (tC (.ref (cx "NoFit"))) (tCons (tC (.ref (cx "NoShrink"))) (tCons (tC (.ref (cx "NoText"))) (tCons (tC (.ref (cx "NoRow"))) (tCons (tC (.ref (cx "NoName"))) tNil)))))))) tNil))) (gName 4))
    (tSeq (tIfS (tOr (tTest (tOp rNe (tCB (rLenL K) (tCons (tVar 3) tNil)) (tC (.int 1)))) (tOr (tB (tVar 4)) (tNot (tB (tCB (rIsX K) (tCons (tVar 0) (tCons (tC (.ty "ValueError")) tNil))))))) (tRet (tC (.str "other"))) tNext)
    (tRet (tOp (rIxL K) (tVar 3) (tC (.int 0))))))))))
theorem sx_lword {K : PySem.W.Frag} {cx : Str → Addr} (xk : Xk K cx xNs xCs) : SX ⟨K, E0, cx0⟩ (R_lword cx) (fz rS) (t_lword K cx) M_lword :=
    (s_seq (s_set a_lword_1 (x_fz (x_lst (x_lcons (x_c fun _ => rfl) (x_lcons (x_c fun _ => rfl) (x_lcons (x_c fun _ => rfl) (x_lcons (x_c fun _ => rfl) (x_lcons (x_c fun _ => rfl) (x_lcons (x_c fun _ => rfl) x_lnil)))))))))
    (s_seq (s_set a_lword_2 (x_fz (x_lst (x_lcons (x_tCB (v_isX (c := "NoShape") xk (by decide)) (x_acons Cv.id (x_var a_lword_0) (x_aone (x_is Cv.id (x_c (r := rCls (.ref (cx "NoShape"))) (a := ()) fun _ => rfl))))) (x_lcons (x_tCB (v_isX (c := "NoFace") xk (by decide)) (x_acons Cv.id (x_var a_lword_0) (x_aone (x_is Cv.id (x_c (r := rCls (.ref (cx "NoFace"))) (a := ()) fun _ => rfl))))) (x_lcons (x_tCB (v_isX (c := "NoPiece") xk (by decide)) (x_acons Cv.id (x_var a_lword_0) (x_aone (x_is Cv.id (x_c (r := rCls (.ref (cx "NoPiece"))) (a := ()) fun _ => rfl))))) x_lnil))))))
    (s_seq (s_set a_lword_2 (x_fz (x_tOpF v_cat Cv.ob (x_var a_lword_2) (x_is Cv.ob (x_fz (x_lst (x_lcons (x_tCB (v_isX (c := "NoCorner") xk (by decide)) (x_acons Cv.id (x_var a_lword_0) (x_aone (x_is Cv.id (x_c (r := rCls (.ref (cx "NoCorner"))) (a := ()) fun _ => rfl))))) (x_lcons (x_tCB (v_isX (c := "NotClosed") xk (by decide)) (x_acons Cv.id (x_var a_lword_0) (x_aone (x_is Cv.id (x_c (r := rCls (.ref (cx "NotClosed"))) (a := ()) fun _ => rfl))))) (x_lcons (x_tCB (v_isX (c := "TooMany") xk (by decide)) (x_acons Cv.id (x_var a_lword_0) (x_aone (x_is Cv.id (x_c (r := rCls (.ref (cx "TooMany"))) (a := ()) fun _ => rfl))))) x_lnil)))))))))
    (s_seq (s_set a_lword_3 (x_fz (x_lc (x_rng1 (x_aone (x_is Cv.id (x_c fun _ => rfl)))) (Wp.cons a_lword_5 Wp.nil) (n_name a_lword_5 (by decide)) (x_tB (x_tOp v_ixL Cv.ob (x_var a_lword_2) (x_is Cv.id (x_var a_lword_5)))) (x_tOp v_ixL Cv.ob (x_var a_lword_1) (x_is Cv.id (x_var a_lword_5))))))
    (s_seq (s_set a_lword_4 (x_tCB (v_isXT (ds := ["NoOrder", "NoWish", "NoFit", "NoShrink", "NoText", "NoRow", "NoName"]) xk (by decide)) (x_acons Cv.id (x_var a_lword_0) (x_aone (x_is Cv.id (x_clsT (cs := [cx "NoOrder", cx "NoWish", cx "NoFit", cx "NoShrink", cx "NoText", cx "NoRow", cx "NoName"]) (Nat.le_of_ble_eq_true rfl)))))))
    (s_seq (s_ifB (x_or (x_test (x_tOp v_neI Cv.id (x_tCB v_lenL (x_aone (x_is Cv.ob (x_var a_lword_3)))) (x_is Cv.id (x_c fun _ => rfl)))) (x_or (x_tB (x_var a_lword_4)) (x_not (x_tB (x_tCB (v_isV xk) (x_acons Cv.id (x_var a_lword_0) (x_aone (x_is Cv.id (x_c (r := rCls (.ty "ValueError")) (a := ()) fun _ => rfl))))))))) (s_ret (x_c fun _ => rfl)) s_next)
    (s_ret (x_tOp v_ixL Cv.ob (x_var a_lword_3) (x_is Cv.id (x_c fun _ => rfl))))))))))
theorem rd_lword {K : PySem.W.Frag} {cx : Str → Addr} (xk : Xk K cx xNs xCs) {H : Hp} {vs : List V} {Q : VK} {E : XK} {N : List Str} (h : sp_lword K cx vs H Q E) (hN : N.length = 6 := by rfl) : t_lword K cx { nx := fun _ H' => Q .non H', rt := Q } (start N vs) H := by
  have h : spD K cx0 (aOne (ir (rX cx))) (fz rS) (fun (a : Xc) => (M_lword (some a, none, none, none, none, none, ())).run none) vs H Q E := h
  refine d_D (dn := none) (ra := (aOne (ir (rX cx)))) (e0 := fun (a : Xc) => (some a, none, none, none, none, none, ())) (sx_lword xk) ?_ ?_ h
  · intro G H vs a s hr
    obtain ⟨v0, rfl, h0⟩ := hr
    rw [show start N [v0] = [some v0, none, none, none, none, none] by simp [L2.start, hN]]
    exact (e_fr h0 (e_frN (e_frN (e_frN (e_frN (e_frN e_nil))))))
  · intro b h; cases h
abbrev E_ltold : Type := Option (Rs Unit (List (List Int))) × Option (Option Xc) × Option (Option (List (List Int))) × Option Xc × Unit
def R_ltold (cx : Str → Addr) (q : Str) (f c' : Addr) (tl : TLm) : ERep E_ltold := (eFr (rLam cx (rz (oT (rz (oT rI)))) q f c' tl) (eFr (rO (rX cx)) (eFr (rO (rz (oT (rz (oT rI))))) (eFr (rX cx) eNil))))
abbrev l_ltold_0 : Ln E_ltold (Rs Unit (List (List Int))) := Ln.z
theorem a_ltold_0 {cx : Str → Addr} {q : Str} {f c' : Addr} {tl : TLm} : FrAt (R_ltold cx q f c' tl) 0 (rLam cx (rz (oT (rz (oT rI)))) q f c' tl) l_ltold_0 := FrAt.z
abbrev l_ltold_1 : Ln E_ltold (Option Xc) := (Ln.s Ln.z)
theorem a_ltold_1 {cx : Str → Addr} {q : Str} {f c' : Addr} {tl : TLm} : FrAt (R_ltold cx q f c' tl) 1 (rO (rX cx)) l_ltold_1 := (FrAt.sF FrAt.z)
abbrev l_ltold_2 : Ln E_ltold (Option (List (List Int))) := (Ln.s (Ln.s Ln.z))
theorem a_ltold_2 {cx : Str → Addr} {q : Str} {f c' : Addr} {tl : TLm} : FrAt (R_ltold cx q f c' tl) 2 (rO (rz (oT (rz (oT rI))))) l_ltold_2 := (FrAt.sF (FrAt.sF FrAt.z))
abbrev l_ltold_3 : Ln E_ltold Xc := (Ln.s (Ln.s (Ln.s Ln.z)))
theorem a_ltold_3 {cx : Str → Addr} {q : Str} {f c' : Addr} {tl : TLm} : FrAt (R_ltold cx q f c' tl) 3 (rX cx) l_ltold_3 := (FrAt.sF (FrAt.sF (FrAt.sF FrAt.z)))
def M_ltold : E_ltold → So E_ltold ((List (List Int)) ⊕ Str) :=
    (mSeq (mSet l_ltold_1 (mNone (mC ())))
    (mSeq (mSet l_ltold_2 (mNone (mC ())))
    (mSeq (mTryA xNs l_ltold_0 l_ltold_1 l_ltold_3 l_ltold_2 some)
    (mSeq (mIfS (mOp gIsN (mVar l_ltold_1) (mC ())) (mRet (mUn (toL (β := Str)) (mUnw (mUn ofL (mOp gPick (mUn some (mPair (mVar l_ltold_2) (mUn szOk (mCons (mVar l_ltold_2) (mC []))))) (mUn gIntB (mUn (gIsi false) (mPair (mVar l_ltold_2) (mC ()))))))))) mNext)
    (mRet (mUn (toR (α := (List (List Int)))) (mCall (fun p => m_lword p) (mUnw (mVar l_ltold_1)))))))))
def m_ltold (x0 : (Rs Unit (List (List Int)))) : Rs Unit ((List (List Int)) ⊕ Str) := (M_ltold (some x0, none, none, none, ())).run none
abbrev u_ltold (p : (Rs Unit (List (List Int)))) : Rs Unit ((List (List Int)) ⊕ Str) := m_ltold p
def tt_ltold (K : PySem.W.Frag) (cx : Str → Addr) : TLT := ttM K cx (rz (oT (rz (oT rI)))) (fz (rSum (rz (oT (rz (oT rI)))) rS)) u_ltold
def t_ltold (K : PySem.W.Frag) (cx : Str → Addr) (q : Str) (f c' : Addr) (tl : TLm) : TS :=
    (tSeq (tAsg (tC .non) (gName 1))
    (tSeq (tAsg (tC .non) (gName 2))
    (tSeq (tTryA K (.ref (cx "SideError")) 3 1 2 q f c' tl)
    (tSeq (tIfS (tTest (tOp rIsN (tVar 1) (tC .non))) (tRet (tOp (rIxL K) (tLst (tCons (tVar 2) (tCons (tLst (tCons (tVar 2) tNil)) tNil))) (tCB rIntB (tCons (tCB (rIsi K) (tCons (tVar 2) (tCons (tC (.ty "str")) tNil))) tNil)))) tNext)
    (tRet (tCall (sp_lword K cx) [] E0 (tCons (tVar 1) tNil)))))))
theorem sx_ltold {K : PySem.W.Frag} {cx : Str → Addr} (xk : Xk K cx xNs xCs) {q : Str} {f c' : Addr} {tl : TLm} : SX ⟨K, E0, cx0⟩ (R_ltold cx q f c' tl) (fz (rSum (rz (oT (rz (oT rI)))) rS)) (t_ltold K cx q f c' tl) M_ltold :=
    (s_seq (s_set a_ltold_1 (x_none (x_c fun _ => rfl)))
    (s_seq (s_set a_ltold_2 (x_none (x_c fun _ => rfl)))
    (s_seq (s_tryA xk a_ltold_0 a_ltold_1 a_ltold_3 (Fg.sF (Fg.sF (Fg.sF Fg.z))) a_ltold_2 (fun _ _ _ h => ⟨nn_z _ _ _ _ h, h⟩))
    (s_seq (s_if (x_test (x_tOp v_isN Cv.id (x_var a_ltold_1) (x_is Cv.id (x_c fun _ => rfl)))) (s_ret (x_cast c_toL (x_unw (x_cast c_ofL (x_tOp v_pick Cv.ob (x_fz (x_lst2 (x_p2 (x_var a_ltold_2) (x_fz (x_lst (x_lcons (x_var a_ltold_2) x_lnil)))))) (x_is Cv.id (x_tCB v_intB (x_aone (x_is Cv.id (x_tCB (v_isiO (kd_z kd_Tr) (fun _ => kit_ty (by decide +kernel)) (fun _ => kit_ty (by decide +kernel))) (x_acons Cv.id (x_var a_ltold_2) (x_aone (x_is Cv.id (x_c (r := rTy "str") (a := ()) fun _ => rfl)))))))))))))) s_next)
    (s_ret (x_cast c_toR (x_call (x_aone (x_is Cv.id (x_unw (x_var a_ltold_1)))))))))))
theorem rd_ltold {K : PySem.W.Frag} {cx : Str → Addr} (xk : Xk K cx xNs xCs) {q : Str} {f c' : Addr} {tl : TLm} {H : Hp} {Q : VK} {N : List Str} (h : tt_ltold K cx q f c' tl H Q) (hN : N.length = 4 := by rfl) : t_ltold K cx q f c' tl { nx := fun _ H' => Q .non H', rt := Q } (start N [.ref f]) H := by
  have h : spD K cx0 (aOne (ir (rLam cx (rz (oT (rz (oT rI)))) q f c' tl))) (fz (rSum (rz (oT (rz (oT rI)))) rS)) (fun (a : (Rs Unit (List (List Int)))) => (M_ltold (some a, none, none, none, ())).run none) [.ref f] H Q E0 := h
  refine d_D (dn := none) (ra := (aOne (ir (rLam cx (rz (oT (rz (oT rI)))) q f c' tl)))) (e0 := fun (a : (Rs Unit (List (List Int)))) => (some a, none, none, none, ())) (sx_ltold xk) ?_ ?_ h
  · intro G H vs a s hr
    obtain ⟨v0, rfl, h0⟩ := hr
    rw [show start N [v0] = [some v0, none, none, none] by simp [L2.start, hN]]
    exact (e_fr h0 (e_frN (e_frN (e_frN e_nil))))
  · intro b h; cases h
abbrev E_ltold_b : Type := Option (Rs Unit ((List (List Int)) × (List (Int × (List Int))))) × Option (Option Xc) × Option (Option ((List (List Int)) × (List (Int × (List Int))))) × Option Xc × Unit
def R_ltold_b (cx : Str → Addr) (q : Str) (f c' : Addr) (tl : TLm) : ERep E_ltold_b := (eFr (rLamN cx (rz (oT2 (rz (oT (rz (oT rI)))) (rz (oL (rz (oT2 rI (rz (oT rI)))))))) q f c' tl) (eFr (rO (rX cx)) (eH (hN (rO (rz (oT2 (rz (oT (rz (oT rI)))) (rz (oL (rz (oT2 rI (rz (oT rI)))))))))) (eFr (rX cx) eNil))))
abbrev l_ltold_b_0 : Ln E_ltold_b (Rs Unit ((List (List Int)) × (List (Int × (List Int))))) := Ln.z
theorem a_ltold_b_0 {cx : Str → Addr} {q : Str} {f c' : Addr} {tl : TLm} : FrAt (R_ltold_b cx q f c' tl) 0 (rLamN cx (rz (oT2 (rz (oT (rz (oT rI)))) (rz (oL (rz (oT2 rI (rz (oT rI)))))))) q f c' tl) l_ltold_b_0 := FrAt.z
abbrev l_ltold_b_1 : Ln E_ltold_b (Option Xc) := (Ln.s Ln.z)
theorem a_ltold_b_1 {cx : Str → Addr} {q : Str} {f c' : Addr} {tl : TLm} : FrAt (R_ltold_b cx q f c' tl) 1 (rO (rX cx)) l_ltold_b_1 := (FrAt.sF FrAt.z)
abbrev l_ltold_b_2 : Ln E_ltold_b (Option ((List (List Int)) × (List (Int × (List Int))))) := (Ln.s (Ln.s Ln.z))
theorem a_ltold_b_2 {cx : Str → Addr} {q : Str} {f c' : Addr} {tl : TLm} : HdAt (R_ltold_b cx q f c' tl) 2 (hN (rO (rz (oT2 (rz (oT (rz (oT rI)))) (rz (oL (rz (oT2 rI (rz (oT rI)))))))))) l_ltold_b_2 := (HdAt.sF (HdAt.sF HdAt.z))
abbrev l_ltold_b_3 : Ln E_ltold_b Xc := (Ln.s (Ln.s (Ln.s Ln.z)))
theorem a_ltold_b_3 {cx : Str → Addr} {q : Str} {f c' : Addr} {tl : TLm} : FrAt (R_ltold_b cx q f c' tl) 3 (rX cx) l_ltold_b_3 := (FrAt.sF (FrAt.sF (FrAt.sH FrAt.z)))
def M_ltold_b : E_ltold_b → So E_ltold_b (((List (List Int)) × (List (Int × (List Int)))) ⊕ Str) :=
    (mSeq (mSet l_ltold_b_1 (mNone (mC ())))
    (mSeq (mSet l_ltold_b_2 (mNone (mC ())))
    (mSeq (mTryA xNs l_ltold_b_0 l_ltold_b_1 l_ltold_b_3 l_ltold_b_2 some)
    (mSeq (mIfS (mOp gIsN (mVar l_ltold_b_1) (mC ())) (mRet (mSmall l_ltold_b_2 (mUn (toL (β := Str)) (mUnw (mUn ofL (mOp gPick (mUn some (mPair (mVar (Ln.z : Ln (Option (Option ((List (List Int)) × (List (Int × (List Int))))) × Unit) (Option ((List (List Int)) × (List (Int × (List Int))))))) (mUn szOk (mCons (mVar (Ln.z : Ln (Option (Option ((List (List Int)) × (List (Int × (List Int))))) × Unit) (Option ((List (List Int)) × (List (Int × (List Int))))))) (mC []))))) (mUn gIntB (mUn (gIsi false) (mPair (mVar (Ln.z : Ln (Option (Option ((List (List Int)) × (List (Int × (List Int))))) × Unit) (Option ((List (List Int)) × (List (Int × (List Int))))))) (mC ())))))))))) mNext)
    (mRet (mUn (toR (α := ((List (List Int)) × (List (Int × (List Int)))))) (mCall (fun p => m_lword p) (mUnw (mVar l_ltold_b_1)))))))))
def m_ltold_b (x0 : (Rs Unit ((List (List Int)) × (List (Int × (List Int)))))) : Rs Unit (((List (List Int)) × (List (Int × (List Int)))) ⊕ Str) := (M_ltold_b (some x0, none, none, none, ())).run none
abbrev u_ltold_b (p : (Rs Unit ((List (List Int)) × (List (Int × (List Int)))))) : Rs Unit (((List (List Int)) × (List (Int × (List Int)))) ⊕ Str) := m_ltold_b p
def tt_ltold_b (K : PySem.W.Frag) (cx : Str → Addr) : TLT := ttMN K cx (rz (oT2 (rz (oT (rz (oT rI)))) (rz (oL (rz (oT2 rI (rz (oT rI)))))))) (nf (rSum (rz (oT2 (rz (oT (rz (oT rI)))) (rz (oL (rz (oT2 rI (rz (oT rI)))))))) rS)) u_ltold_b
def t_ltold_b (K : PySem.W.Frag) (cx : Str → Addr) (q : Str) (f c' : Addr) (tl : TLm) : TS :=
    (tSeq (tAsg (tC .non) (gName 1))
    (tSeq (tAsg (tC .non) (gName 2))
    (tSeq (tTryA K (.ref (cx "SideError")) 3 1 2 q f c' tl)
    (tSeq (tIfS (tTest (tOp rIsN (tVar 1) (tC .non))) (tRet (tOp (rIxL K) (tLst (tCons (tVar 2) (tCons (tLst (tCons (tVar 2) tNil)) tNil))) (tCB rIntB (tCons (tCB (rIsi K) (tCons (tVar 2) (tCons (tC (.ty "str")) tNil))) tNil)))) tNext)
    (tRet (tCall (sp_lword K cx) [] E0 (tCons (tVar 1) tNil)))))))
theorem sx_ltold_b {K : PySem.W.Frag} {cx : Str → Addr} (xk : Xk K cx xNs xCs) {q : Str} {f c' : Addr} {tl : TLm} : SX ⟨K, E0, cx0⟩ (R_ltold_b cx q f c' tl) (nf (rSum (rz (oT2 (rz (oT (rz (oT rI)))) (rz (oL (rz (oT2 rI (rz (oT rI)))))))) rS)) (t_ltold_b K cx q f c' tl) M_ltold_b :=
    (s_seq (s_set a_ltold_b_1 (x_none (x_c fun _ => rfl)))
    (s_seq (s_setN a_ltold_b_2 (x_noneN (x_c fun _ => rfl)))
    (s_seq (s_tryAN xk a_ltold_b_0 a_ltold_b_1 a_ltold_b_3 (Fg.sF (Fg.sF (Fg.sH Fg.z))) a_ltold_b_2 (fun _ _ _ h => ⟨nn_z _ _ _ _ h, h⟩))
    (s_seq (s_if (x_test (x_tOp v_isN Cv.id (x_var a_ltold_b_1) (x_is Cv.id (x_c fun _ => rfl)))) (s_ret (x_small a_ltold_b_2 (x_cast c_toL (x_unw (x_cast c_ofL (x_tOp v_pick Cv.ob (x_fz (x_lst2 (x_p2 (x_var at_eV) (x_fz (x_lst (x_lcons (x_var at_eV) x_lnil)))))) (x_is Cv.id (x_tCB v_intB (x_aone (x_is Cv.id (x_tCB (v_isiO (kd_z kd_T2r) (fun _ => kit_ty (by decide +kernel)) (fun _ => kit_ty (by decide +kernel))) (x_acons Cv.id (x_var at_eV) (x_aone (x_is Cv.id (x_c (r := rTy "str") (a := ()) fun _ => rfl))))))))))))))) s_next)
    (s_ret (x_castN c_toR (x_nst st_S (x_call (x_aone (x_is Cv.id (x_unw (x_var a_ltold_b_1))))))))))))
theorem rd_ltold_b {K : PySem.W.Frag} {cx : Str → Addr} (xk : Xk K cx xNs xCs) {q : Str} {f c' : Addr} {tl : TLm} {H : Hp} {Q : VK} {N : List Str} (h : tt_ltold_b K cx q f c' tl H Q) (hN : N.length = 4 := by rfl) : t_ltold_b K cx q f c' tl { nx := fun _ H' => Q .non H', rt := Q } (start N [.ref f]) H := by
  have h : spD K cx0 (aOne (ir (rLamN cx (rz (oT2 (rz (oT (rz (oT rI)))) (rz (oL (rz (oT2 rI (rz (oT rI)))))))) q f c' tl))) (nf (rSum (rz (oT2 (rz (oT (rz (oT rI)))) (rz (oL (rz (oT2 rI (rz (oT rI)))))))) rS)) (fun (a : (Rs Unit ((List (List Int)) × (List (Int × (List Int)))))) => (M_ltold_b (some a, none, none, none, ())).run none) [.ref f] H Q E0 := h
  refine d_D (dn := none) (ra := (aOne (ir (rLamN cx (rz (oT2 (rz (oT (rz (oT rI)))) (rz (oL (rz (oT2 rI (rz (oT rI)))))))) q f c' tl)))) (e0 := fun (a : (Rs Unit ((List (List Int)) × (List (Int × (List Int)))))) => (some a, none, none, none, ())) (sx_ltold_b xk) ?_ ?_ h
  · intro G H vs a s hr
    obtain ⟨v0, rfl, h0⟩ := hr
    rw [show start N [v0] = [some v0, none, none, none] by simp [L2.start, hN]]
    exact (e_fr h0 (e_frN (e_hdN (e_frN e_nil))))
  · intro b h; cases h
abbrev E_lnumbers : Type := Option ((List Int) × Int × Int) × Option Int × Option (List Th) × Option Int × Option Int × Option (List Th) × Unit
def R_lnumbers : ERep E_lnumbers := (eIo 0 (oL3 rScr rI rI) (eFr rI (eFr (rz (oL rTh)) (eFr rI (eFr rI (eFr (rz (oL rTh)) eNil))))))
abbrev l_lnumbers_0 : Ln E_lnumbers ((List Int) × Int × Int) := Ln.z
theorem a_lnumbers_0 : OwAt R_lnumbers 0 (ownI 0) (oL3 rScr rI rI) l_lnumbers_0 := OwAt.z
abbrev l_lnumbers_1 : Ln E_lnumbers Int := (Ln.s Ln.z)
theorem a_lnumbers_1 : FrAt R_lnumbers 1 rI l_lnumbers_1 := (FrAt.sO FrAt.z)
abbrev l_lnumbers_2 : Ln E_lnumbers (List Th) := (Ln.s (Ln.s Ln.z))
theorem a_lnumbers_2 : FrAt R_lnumbers 2 (rz (oL rTh)) l_lnumbers_2 := (FrAt.sO (FrAt.sF FrAt.z))
abbrev l_lnumbers_3 : Ln E_lnumbers Int := (Ln.s (Ln.s (Ln.s Ln.z)))
theorem a_lnumbers_3 : FrAt R_lnumbers 3 rI l_lnumbers_3 := (FrAt.sO (FrAt.sF (FrAt.sF FrAt.z)))
abbrev l_lnumbers_4 : Ln E_lnumbers Int := (Ln.s (Ln.s (Ln.s (Ln.s Ln.z))))
theorem a_lnumbers_4 : FrAt R_lnumbers 4 rI l_lnumbers_4 := (FrAt.sO (FrAt.sF (FrAt.sF (FrAt.sF FrAt.z))))
abbrev l_lnumbers_5 : Ln E_lnumbers (List Th) := (Ln.s (Ln.s (Ln.s (Ln.s (Ln.s Ln.z)))))
theorem a_lnumbers_5 : FrAt R_lnumbers 5 (rz (oL rTh)) l_lnumbers_5 := (FrAt.sO (FrAt.sF (FrAt.sF (FrAt.sF (FrAt.sF FrAt.z)))))
def M_lnumbers : E_lnumbers → So E_lnumbers (List Th) :=
    (mSeq (mSet l_lnumbers_2 (mUn (fun xs => some (List.map Th.int xs)) (mCallI l_lnumbers_0 (fun s p => m_lorder s p) (mVar l_lnumbers_1))))
    (mSeq (mSet l_lnumbers_3 (mCallI l_lnumbers_0 (fun s p => m_ltake s p) (mC (6 : Int))))
    (mSeq (mSet l_lnumbers_4 (mCallI l_lnumbers_0 (fun s p => m_ltake s p) (mOp gAdd (mVar l_lnumbers_1) (mC (1 : Int)))))
    (mCut (mIfS (mOp gEq (mVar l_lnumbers_3) (mC (1 : Int))) (mSet l_lnumbers_2 (mSl gCut (mVar l_lnumbers_2) (mC none) (mPart (mVar l_lnumbers_4)))) mNext)
    (mCut (mIfS (mOp gEq (mVar l_lnumbers_3) (mC (2 : Int))) (mSet l_lnumbers_2 (mOp gCat (mOp gCat (mSl gCut (mVar l_lnumbers_2) (mC none) (mPart (mVar l_lnumbers_4))) (mSl gCut (mSl gCut (mVar l_lnumbers_2) (mPart (mCallI l_lnumbers_0 (fun s p => m_ltake s p) (mVar l_lnumbers_1))) (mC none)) (mC none) (mPart (mC (1 : Int))))) (mSl gCut (mVar l_lnumbers_2) (mPart (mVar l_lnumbers_4)) (mC none)))) mNext)
    (mCut (mKill (fun e => (Ln.put l_lnumbers_4 none (Ln.put l_lnumbers_5 none e))) (mIfS (mOp gGt (mVar l_lnumbers_3) (mC (2 : Int))) (mSeq (mSet l_lnumbers_2 (mSl gCut (mVar l_lnumbers_2) (mPart (mCallI l_lnumbers_0 (fun s p => m_ltake s p) (mVar l_lnumbers_1))) (mC none)))
    (mSeq (mSet l_lnumbers_5 (mUn szOk (mCons (mUn (toTh Th.int) (mUn gNeg (mC (1 : Int)))) (mCons (mUn (toTh Th.int) (mVar l_lnumbers_1)) (mCons (mUn (toTh Th.int) (mC (100000000000000000000000000000 : Int))) (mCons (mUn (toTh Th.bl) (mC true)) (mCons (mUn (toTh Th.bl) (mC false)) (mCons (mUn (toTh (fun _ => Th.non)) (mC ())) (mCons (mUn (toTh Th.str) (mC ("0" : Str))) (mCons (mUn (toTh (fun xs => Th.tup (List.map (fun t => t) xs))) (mUn szOk (mCons (mUn (toTh Th.int) (mC (0 : Int))) (mC [])))) (mCons (mUn (toTh (fun xs => Th.lst (List.map (fun t => t) xs))) (mUn szOk (mCons (mUn (toTh Th.int) (mC (0 : Int))) (mC [])))) (mCons (mUn (toTh (fun kbs => Th.dct (List.map (fun p => (p.1, (fun t => t) p.2)) kbs))) (mC ([] : (List ((List Int) × Th))))) (mCons (mUn (toTh Th.int) (mOp gSubI (mC (0 : Int)) (mVar l_lnumbers_1))) (mCons (mUn (toTh Th.str) (mC ("" : Str))) (mCons (mUn (toTh Th.int) (mOp gSubI (mC (1 : Int)) (mC (1000000000000000000000000000000 : Int)))) (mC []))))))))))))))))
    (mSeq (mSet l_lnumbers_4 (mOp gMod (mVar l_lnumbers_4) (mOp gAdd (mUn gLen (mVar l_lnumbers_2)) (mC (1 : Int)))))
    (mSet l_lnumbers_2 (mOp gCat (mOp gCat (mSl gCut (mVar l_lnumbers_2) (mC none) (mPart (mVar l_lnumbers_4))) (mUn szOk (mCons (mOp gIx (mVar l_lnumbers_5) (mCallI l_lnumbers_0 (fun s p => m_ltake s p) (mC (13 : Int)))) (mC [])))) (mSl gCut (mVar l_lnumbers_2) (mPart (mVar l_lnumbers_4)) (mC none))))))) mNext))
    (mRet (mVar l_lnumbers_2))))))))
def m_lnumbers (x0 : ((List Int) × Int × Int)) (x1 : Int) : Rs ((List Int) × Int × Int) (List Th) := (M_lnumbers (some x0, some x1, none, none, none, none, ())).runI l_lnumbers_0 none
abbrev u_lnumbers (s : ((List Int) × Int × Int)) (p : Int) : Rs ((List Int) × Int × Int) (List Th) := m_lnumbers s p
def sp_lnumbers (K : PySem.W.Frag) : Sp := spI K cx0 (oL3 rScr rI rI) (aOne (ir rI)) (fz (rz (oL rTh))) u_lnumbers
theorem len_lnumbers (K : PySem.W.Frag) : ∀ vs H Q E, sp_lnumbers K vs H Q E → vs.length = 2 := len_I ALen.one
def t_lnumbers (K : PySem.W.Frag) : TS :=
    (tSeq (tAsg (tCall (sp_lorder K) [] E0 (tCons (tVar 0) (tCons (tVar 1) tNil))) (gName 2))
    (tSeq (tAsg (tCall (sp_ltake K) [] E0 (tCons (tVar 0) (tCons (tC (.int 6)) tNil))) (gName 3))
    (tSeq (tAsg (tCall (sp_ltake K) [] E0 (tCons (tVar 0) (tCons (tOp rAdd (tVar 1) (tC (.int 1))) tNil))) (gName 4))
    (tCut (tIfS (tTest (tOp rEq (tVar 3) (tC (.int 1)))) (tAsg (tSl (rSlL K) (tVar 2) tNoPart (tPart (tVar 4))) (gName 2)) tNext)
    (tCut (tIfS (tTest (tOp rEq (tVar 3) (tC (.int 2)))) (tAsg (tOp rCat (tOp rCat (tSl (rSlL K) (tVar 2) tNoPart (tPart (tVar 4))) (tSl (rSlL K) (tSl (rSlL K) (tVar 2) (tPart (tCall (sp_ltake K) [] E0 (tCons (tVar 0) (tCons (tVar 1) tNil)))) tNoPart) tNoPart (tPart (tC (.int 1))))) (tSl (rSlL K) (tVar 2) (tPart (tVar 4)) tNoPart)) (gName 2)) tNext)
    (tCut (tIfS (tTest (tOp rGt (tVar 3) (tC (.int 2)))) (tSeq (tAsg (tSl (rSlL K) (tVar 2) (tPart (tCall (sp_ltake K) [] E0 (tCons (tVar 0) (tCons (tVar 1) tNil)))) tNoPart) (gName 2))
    (tSeq (tAsg (tLst (tCons (tUn (rU fun i => .int (-i)) (tC (.int 1))) (tCons (tVar 1) (tCons (tOp rPow (tC (.int 10)) (tC (.int 29))) (tCons (tC (.bl true)) (tCons (tC (.bl false)) (tCons (tC .non) (tCons (tC (.str "0")) (tCons (tTup (tCons (tC (.int 0)) tNil)) (tCons (tLst (tCons (tC (.int 0)) tNil)) (tCons tDNewT (tCons (tOp rSub (tC (.int 0)) (tVar 1)) (tCons (tC (.str "")) (tCons (tOp rSub (tC (.int 1)) (tOp rPow (tC (.int 10)) (tC (.int 30)))) tNil)))))))))))))) (gName 5))
    (tSeq (tAsg (tOp rMod (tVar 4) (tOp rAdd (tCB (rLenL K) (tCons (tVar 2) tNil)) (tC (.int 1)))) (gName 4))
    (tAsg (tOp rCat (tOp rCat (tSl (rSlL K) (tVar 2) tNoPart (tPart (tVar 4))) (tLst (tCons (tOp (rIxL K) (tVar 5) (tCall (sp_ltake K) [] E0 (tCons (tVar 0) (tCons (tC (.int 13)) tNil)))) tNil))) (tSl (rSlL K) (tVar 2) (tPart (tVar 4)) tNoPart)) (gName 2))))) tNext)
    (tRet (tVar 2))))))))
theorem sx_lnumbers {K : PySem.W.Frag} : SX ⟨K, E0, cx0⟩ R_lnumbers (fz (rz (oL rTh))) (t_lnumbers K) M_lnumbers :=
    (s_seq (s_set a_lnumbers_2 (x_cast (c_L ci_I) (x_fz (x_callIF a_lnumbers_0 ownI_q (x_pone Cv.id (x_var a_lnumbers_1))))))
    (s_seq (s_set a_lnumbers_3 (x_callI a_lnumbers_0 ownI_q (x_pone Cv.id (x_c fun _ => rfl))))
    (s_seq (s_set a_lnumbers_4 (x_callI a_lnumbers_0 ownI_q (x_pone Cv.id (x_tOp v_add Cv.id (x_var a_lnumbers_1) (x_is Cv.id (x_c fun _ => rfl))))))
    (s_cutC (s_if (x_test (x_tOp v_eqI Cv.id (x_var a_lnumbers_3) (x_is Cv.id (x_c fun _ => rfl)))) (s_set a_lnumbers_2 (x_fz (x_slF v_slL Cv.ob (x_var a_lnumbers_2) x_noPart (x_part (x_var a_lnumbers_4))))) s_next)
    (s_cutC (s_if (x_test (x_tOp v_eqI Cv.id (x_var a_lnumbers_3) (x_is Cv.id (x_c fun _ => rfl)))) (s_set a_lnumbers_2 (x_fz (x_tOpF v_cat Cv.ob (x_fz (x_tOpF v_cat Cv.ob (x_fz (x_slF v_slL Cv.ob (x_var a_lnumbers_2) x_noPart (x_part (x_var a_lnumbers_4)))) (x_is Cv.ob (x_fz (x_slF v_slL Cv.ob (x_fz (x_slF v_slL Cv.ob (x_var a_lnumbers_2) (x_part (x_callI a_lnumbers_0 ownI_q (x_pone Cv.id (x_var a_lnumbers_1)))) x_noPart)) x_noPart (x_part (x_c fun _ => rfl))))))) (x_is Cv.ob (x_fz (x_slF v_slL Cv.ob (x_var a_lnumbers_2) (x_part (x_var a_lnumbers_4)) x_noPart)))))) s_next)
    (s_cutC (s_kill (Kl.and (Kl.fr a_lnumbers_4) (Kl.fr a_lnumbers_5)) (s_if (x_test (x_tOp v_gt Cv.id (x_var a_lnumbers_3) (x_is Cv.id (x_c fun _ => rfl)))) (s_seq (s_set a_lnumbers_2 (x_fz (x_slF v_slL Cv.ob (x_var a_lnumbers_2) (x_part (x_callI a_lnumbers_0 ownI_q (x_pone Cv.id (x_var a_lnumbers_1)))) x_noPart)))
    (s_seq (s_set a_lnumbers_5 (x_fz (x_lst (x_lcons (x_cast ci_I (x_tUn v_neg (x_is Cv.id (x_c fun _ => rfl)))) (x_lcons (x_cast ci_I (x_var a_lnumbers_1)) (x_lcons (x_cast ci_I (x_powc (by decide))) (x_lcons (x_cast ci_B (x_c fun _ => rfl)) (x_lcons (x_cast ci_B (x_c fun _ => rfl)) (x_lcons (x_cast ci_N (x_c fun _ => rfl)) (x_lcons (x_cast ci_S (x_c fun _ => rfl)) (x_lcons (x_cast (ci_T ci_id) (x_tup (x_lcons (x_cast ci_I (x_c fun _ => rfl)) x_lnil))) (x_lcons (x_cast (ci_L ci_id) (x_fz (x_lst (x_lcons (x_cast ci_I (x_c fun _ => rfl)) x_lnil)))) (x_lcons (x_cast (ci_D ci_id) (x_fz (x_dnew (r := rTh)))) (x_lcons (x_cast ci_I (x_tOp v_sub Cv.id (x_c fun _ => rfl) (x_is Cv.id (x_var a_lnumbers_1)))) (x_lcons (x_cast ci_S (x_c fun _ => rfl)) (x_lcons (x_cast ci_I (x_tOp v_sub Cv.id (x_c fun _ => rfl) (x_is Cv.id (x_powc (by decide))))) x_lnil))))))))))))))))
    (s_seq (s_set a_lnumbers_4 (x_tOp v_mod Cv.id (x_var a_lnumbers_4) (x_is Cv.id (x_tOp v_add Cv.id (x_tCB v_lenL (x_aone (x_is Cv.ob (x_var a_lnumbers_2)))) (x_is Cv.id (x_c fun _ => rfl))))))
    (s_set a_lnumbers_2 (x_fz (x_tOpF v_cat Cv.ob (x_fz (x_tOpF v_cat Cv.ob (x_fz (x_slF v_slL Cv.ob (x_var a_lnumbers_2) x_noPart (x_part (x_var a_lnumbers_4)))) (x_is Cv.ob (x_fz (x_lst (x_lcons (x_tOp v_ixL Cv.ob (x_var a_lnumbers_5) (x_is Cv.id (x_callI a_lnumbers_0 ownI_q (x_pone Cv.id (x_c fun _ => rfl))))) x_lnil)))))) (x_is Cv.ob (x_fz (x_slF v_slL Cv.ob (x_var a_lnumbers_2) (x_part (x_var a_lnumbers_4)) x_noPart))))))))) s_next))
    (s_ret (x_var a_lnumbers_2))))))))
theorem rd_lnumbers {K : PySem.W.Frag} {H : Hp} {vs : List V} {Q : VK} {E : XK} {N : List Str} (h : sp_lnumbers K vs H Q E) (hN : N.length = 6 := by rfl) : t_lnumbers K { nx := fun _ H' => Q .non H', rt := Q } (start N vs) H := by
  have h : spI K cx0 (oL3 rScr rI rI) (aOne (ir rI)) (fz (rz (oL rTh))) (fun (s : ((List Int) × Int × Int)) (a : Int) => (M_lnumbers (some s, some a, none, none, none, none, ())).runI l_lnumbers_0 none) vs H Q E := h
  refine d_I (dn := none) (ra := (aOne (ir rI))) (e0 := fun (s : ((List Int) × Int × Int)) (a : Int) => (some s, some a, none, none, none, none, ())) (sx_lnumbers) a_lnumbers_0 ?_ ?_ h
  · intro G H p ho st ws a k1 k2 k3 s hr
    obtain ⟨v1, rfl, h1⟩ := hr
    rw [show start N [.ref p, v1] = [some (.ref p), some v1, none, none, none, none] by simp [L2.start, hN]]
    exact e_io k1 k2 k3 rfl ⟨rfl, rfl⟩ (e_fr h1 (e_frN (e_frN (e_frN (e_frN e_nil)))))
  · intro b h; cases h
abbrev E_lis_number : Type := Option Th × Option Int × Option Int × Unit
def R_lis_number : ERep E_lis_number := (eFr rTh (eFr rI (eFr rI eNil)))
abbrev l_lis_number_0 : Ln E_lis_number Th := Ln.z
theorem a_lis_number_0 : FrAt R_lis_number 0 rTh l_lis_number_0 := FrAt.z
abbrev l_lis_number_1 : Ln E_lis_number Int := (Ln.s Ln.z)
theorem a_lis_number_1 : FrAt R_lis_number 1 rI l_lis_number_1 := (FrAt.sF FrAt.z)
abbrev l_lis_number_2 : Ln E_lis_number Int := (Ln.s (Ln.s Ln.z))
theorem a_lis_number_2 : FrAt R_lis_number 2 rI l_lis_number_2 := (FrAt.sF (FrAt.sF FrAt.z))
def M_lis_number : E_lis_number → So E_lis_number Bool :=
    (mRet (mAnd (mUn (gIsTh "int") (mPair (mVar l_lis_number_0) (mC ()))) (mAnd (mNot (mUn (gIsTh "bool") (mPair (mVar l_lis_number_0) (mC ())))) (mChain gLe gLe (mVar l_lis_number_1) (mUn asI (mVar l_lis_number_0)) (mVar l_lis_number_2)))))
def m_lis_number (x0 : Th) (x1 : Int) (x2 : Int) : Rs Unit Bool := (M_lis_number (some x0, some x1, some x2, ())).run none
abbrev u_lis_number (p : Th × Int × Int) : Rs Unit Bool := m_lis_number (p.1) (p.2.1) (p.2.2)
def sp_lis_number (K : PySem.W.Frag) : Sp := spD K cx0 (aCons (ir rTh) (aCons (ir rI) (aOne (ir rI)))) (fz rB) u_lis_number
theorem len_lis_number (K : PySem.W.Frag) : ∀ vs H Q E, sp_lis_number K vs H Q E → vs.length = 3 := len_D (ALen.cons (ALen.cons ALen.one))
def t_lis_number (K : PySem.W.Frag) : TS :=
    (tRet (tAndV (tCB (rIsi K) (tCons (tVar 0) (tCons (tC (.ty "int")) tNil))) (tAndV (tNotV (tCB (rIsi K) (tCons (tVar 0) (tCons (tC (.ty "bool")) tNil)))) (tChain rLe rLe (tVar 1) (tVar 0) (tVar 2)))))
theorem sx_lis_number {K : PySem.W.Frag} : SX ⟨K, E0, cx0⟩ R_lis_number (fz rB) (t_lis_number K) M_lis_number :=
    (s_ret (x_andV (x_tCB (v_isTh k_int) (x_acons Cv.id (x_var a_lis_number_0) (x_aone (x_is Cv.id (x_c (r := rTy "int") (a := ()) fun _ => rfl))))) (x_andV (x_notV (x_tCB (v_isTh k_bool) (x_acons Cv.id (x_var a_lis_number_0) (x_aone (x_is Cv.id (x_c (r := rTy "bool") (a := ()) fun _ => rfl)))))) (x_chain v_le v_le (x_var a_lis_number_1) (x_cast c_asI (x_var a_lis_number_0)) (x_var a_lis_number_2)))))
theorem rd_lis_number {K : PySem.W.Frag} {H : Hp} {vs : List V} {Q : VK} {E : XK} {N : List Str} (h : sp_lis_number K vs H Q E) (hN : N.length = 3 := by rfl) : t_lis_number K { nx := fun _ H' => Q .non H', rt := Q } (start N vs) H := by
  have h : spD K cx0 (aCons (ir rTh) (aCons (ir rI) (aOne (ir rI)))) (fz rB) (fun (a : Th × Int × Int) => (M_lis_number (some a.1, some a.2.1, some a.2.2, ())).run none) vs H Q E := h
  refine d_D (dn := none) (ra := (aCons (ir rTh) (aCons (ir rI) (aOne (ir rI))))) (e0 := fun (a : Th × Int × Int) => (some a.1, some a.2.1, some a.2.2, ())) (sx_lis_number) ?_ ?_ h
  · intro G H vs a s hr
    obtain ⟨v0, _, rfl, h0, ⟨v1, _, rfl, h1, ⟨v2, rfl, h2⟩⟩⟩ := hr
    rw [show start N [v0, v1, v2] = [some v0, some v1, some v2] by simp [L2.start, hN]]
    exact (e_fr h0 (e_fr h1 (e_fr h2 e_nil)))
  · intro b h; cases h
abbrev E_lpart_due : Type := Option (List (List Int)) × Option (List Th) × Option Int × Option Th × Option Th × Unit
def R_lpart_due : ERep E_lpart_due := (eFr (rz (oT (rz (oT rI)))) (eFr (rz (oL rTh)) (eFr rI (eFr rTh (eFr rTh eNil)))))
abbrev l_lpart_due_0 : Ln E_lpart_due (List (List Int)) := Ln.z
theorem a_lpart_due_0 : FrAt R_lpart_due 0 (rz (oT (rz (oT rI)))) l_lpart_due_0 := FrAt.z
abbrev l_lpart_due_1 : Ln E_lpart_due (List Th) := (Ln.s Ln.z)
theorem a_lpart_due_1 : FrAt R_lpart_due 1 (rz (oL rTh)) l_lpart_due_1 := (FrAt.sF FrAt.z)
abbrev l_lpart_due_2 : Ln E_lpart_due Int := (Ln.s (Ln.s Ln.z))
theorem a_lpart_due_2 : FrAt R_lpart_due 2 rI l_lpart_due_2 := (FrAt.sF (FrAt.sF FrAt.z))
abbrev l_lpart_due_3 : Ln E_lpart_due Th := (Ln.s (Ln.s (Ln.s Ln.z)))
theorem a_lpart_due_3 : FrAt R_lpart_due 3 rTh l_lpart_due_3 := (FrAt.sF (FrAt.sF (FrAt.sF FrAt.z)))
abbrev l_lpart_due_4 : Ln E_lpart_due Th := (Ln.s (Ln.s (Ln.s (Ln.s Ln.z))))
theorem a_lpart_due_4 : FrAt R_lpart_due 4 rTh l_lpart_due_4 := (FrAt.sF (FrAt.sF (FrAt.sF (FrAt.sF FrAt.z))))
def M_lpart_due : E_lpart_due → So E_lpart_due ((List (List Int)) ⊕ Str) :=
    (mCut (mKill (fun e => (Ln.put l_lpart_due_2 none (Ln.put l_lpart_due_3 none e))) (mFor (mEnum (mVar l_lpart_due_1)) (p2 (pN l_lpart_due_2) (pN l_lpart_due_3))
    (mKill (fun e => (Ln.put l_lpart_due_2 none (Ln.put l_lpart_due_3 none e))) (mSeq (mIfS (mNot (mCall (fun p => m_lis_number (p.1) (p.2.1) (p.2.2)) (mPair (mVar l_lpart_due_3) (mPair (mC (0 : Int)) (mOp gSubI (mUn gLen (mVar l_lpart_due_0)) (mC (1 : Int))))))) (mRet (mUn (toR (α := (List (List Int)))) (mC ("NoPiece" : Str)))) mNext)
    (mIfS (mOp gNe (mLc (mSl gCut (mVar l_lpart_due_1) (mC none) (mPart (mVar l_lpart_due_2))) (pN l_lpart_due_4) (mOp gEq (mUn asI (mVar l_lpart_due_4)) (mUn asI (mVar l_lpart_due_3))) (mUn asI (mVar l_lpart_due_4)) (fun e => Ln.put l_lpart_due_4 none (id e)) (fun e e1 => (fun _ e1 => e1) e (Ln.put l_lpart_due_4 (Ln.get l_lpart_due_4 (id e)) e1))) (mUn szOk (mC ([] : List Int)))) (mRet (mUn (toR (α := (List (List Int)))) (mC ("NoPiece" : Str)))) mNext)))))
    (mRet (mOp gPick (mUn some (mPair (mUn gId (mLc (mVar l_lpart_due_1) (pN l_lpart_due_3) mYes (mOp gIx (mVar l_lpart_due_0) (mUn asI (mVar l_lpart_due_3))) (fun e => Ln.put l_lpart_due_3 none (id e)) (fun e e1 => (fun _ e1 => e1) e (Ln.put l_lpart_due_3 (Ln.get l_lpart_due_3 (id e)) e1)))) (mC ("NoPiece" : Str)))) (mUn gIntB (mOp gEqN (mVar l_lpart_due_1) (mUn szOk (mC ([] : List Th))))))))
def m_lpart_due (x0 : (List (List Int))) (x1 : (List Th)) : Rs Unit ((List (List Int)) ⊕ Str) := (M_lpart_due (some x0, some x1, none, none, none, ())).run none
abbrev u_lpart_due (p : (List (List Int)) × (List Th)) : Rs Unit ((List (List Int)) ⊕ Str) := m_lpart_due (p.1) (p.2)
def sp_lpart_due (K : PySem.W.Frag) : Sp := spD K cx0 (aCons (ir (rz (oT (rz (oT rI))))) (aOne (ir (rz (oL rTh))))) (fz (rSum (rz (oT (rz (oT rI)))) rS)) u_lpart_due
theorem len_lpart_due (K : PySem.W.Frag) : ∀ vs H Q E, sp_lpart_due K vs H Q E → vs.length = 2 := len_D (ALen.cons ALen.one)
def t_lpart_due (K : PySem.W.Frag) : TS :=
    (tSeq (tFor (iEnum K (tCons (tVar 1) tNil)) (gTup K 2 (gCons (gName 2) (gCons (gName 3) gNil)))
    (tSeq (tIfS (tNot (tB (tCall (sp_lis_number K) [] E0 (tCons (tVar 3) (tCons (tC (.int 0)) (tCons (tOp rSub (tCB (rLenL K) (tCons (tVar 0) tNil)) (tC (.int 1))) tNil)))))) (tRet (tC (.str "NoPiece"))) tNext)
    (tIfS (tTest (tOp (rNeD K) (tLc (iList K (tSl (rSlL K) (tVar 1) tNoPart (tPart (tVar 2)))) (gName 4) (tTest (tOp rEq (tVar 4) (tVar 3))) (tVar 4) [4]) (tLst tNil))) (tRet (tC (.str "NoPiece"))) tNext)))
    (tRet (tOp (rIxL K) (tLst (tCons (tCB (rTupOf K) (tCons (tLc (iList K (tVar 1)) (gName 3) tYes (tOp (rIxT K) (tVar 0) (tVar 3)) [3]) tNil)) (tCons (tC (.str "NoPiece")) tNil))) (tCB rIntB (tCons (tOp (rEqN K) (tVar 1) (tLst tNil)) tNil)))))
theorem sx_lpart_due {K : PySem.W.Frag} : SX ⟨K, E0, cx0⟩ R_lpart_due (fz (rSum (rz (oT (rz (oT rI)))) rS)) (t_lpart_due K) M_lpart_due :=
    (s_seqC (s_kill (Kl.and (Kl.fr a_lpart_due_2) (Kl.fr a_lpart_due_3)) (s_for (vs := [2, 3]) (x_enum (x_var a_lpart_due_1)) (n_tup2 (n_name a_lpart_due_2 (by decide)) (n_name a_lpart_due_3 (by decide)))
    (s_kill (Kl.and (Kl.fr a_lpart_due_2) (Kl.fr a_lpart_due_3)) (s_seq (s_if (x_not (x_tB (x_call (x_acons Cv.id (x_var a_lpart_due_3) (x_acons Cv.id (x_c fun _ => rfl) (x_aone (x_is Cv.id (x_tOp v_sub Cv.id (x_tCB v_lenT (x_aone (x_is Cv.ob (x_var a_lpart_due_0)))) (x_is Cv.id (x_c fun _ => rfl)))))))))) (s_ret (x_cast c_toR (x_c fun _ => rfl))) s_next)
    (s_if (x_test (x_tOp (v_neD (da_Lr da_I) (da_Lr da_I) (eq_L eq_I) (by decide)) Cv.ob (x_fz (x_lc (x_iL (x_fz (x_slF v_slL Cv.ob (x_var a_lpart_due_1) x_noPart (x_part (x_var a_lpart_due_2))))) (Wp.cons a_lpart_due_4 Wp.nil) (n_name a_lpart_due_4 (by decide)) (x_test (x_tOp v_eqI Cv.id (x_cast c_asI (x_var a_lpart_due_4)) (x_is Cv.id (x_cast c_asI (x_var a_lpart_due_3))))) (x_cast c_asI (x_var a_lpart_due_4)))) (x_is Cv.ob (x_fz (x_lst (x_lnil (r := rI))))))) (s_ret (x_cast c_toR (x_c fun _ => rfl))) s_next)))))
    (s_ret (x_tOp v_pick Cv.ob (x_fz (x_lst2 (x_p2 (x_tCB v_tupOfL (x_aone (x_is Cv.ob (x_fz (x_lc (x_iL (x_var a_lpart_due_1)) (Wp.cons a_lpart_due_3 Wp.nil) (n_name a_lpart_due_3 (by decide)) x_yes (x_tOp v_ixT Cv.ob (x_var a_lpart_due_0) (x_is Cv.id (x_cast c_asI (x_var a_lpart_due_3))))))))) (x_c fun _ => rfl)))) (x_is Cv.id (x_tCB v_intB (x_aone (x_is Cv.id (x_tOp v_eqN Cv.ob (x_var a_lpart_due_1) (x_is Cv.ob (x_fz (x_lst (x_lnil (r := rTh)))))))))))))
theorem rd_lpart_due {K : PySem.W.Frag} {H : Hp} {vs : List V} {Q : VK} {E : XK} {N : List Str} (h : sp_lpart_due K vs H Q E) (hN : N.length = 5 := by rfl) : t_lpart_due K { nx := fun _ H' => Q .non H', rt := Q } (start N vs) H := by
  have h : spD K cx0 (aCons (ir (rz (oT (rz (oT rI))))) (aOne (ir (rz (oL rTh))))) (fz (rSum (rz (oT (rz (oT rI)))) rS)) (fun (a : (List (List Int)) × (List Th)) => (M_lpart_due (some a.1, some a.2, none, none, none, ())).run none) vs H Q E := h
  refine d_D (dn := none) (ra := (aCons (ir (rz (oT (rz (oT rI))))) (aOne (ir (rz (oL rTh)))))) (e0 := fun (a : (List (List Int)) × (List Th)) => (some a.1, some a.2, none, none, none, ())) (sx_lpart_due) ?_ ?_ h
  · intro G H vs a s hr
    obtain ⟨v0, _, rfl, h0, ⟨v1, rfl, h1⟩⟩ := hr
    rw [show start N [v0, v1] = [some v0, some v1, none, none, none] by simp [L2.start, hN]]
    exact (e_fr h0 (e_fr h1 (e_frN (e_frN (e_frN e_nil)))))
  · intro b h; cases h
abbrev E_lbegun_due : Type := Option (List (List Int)) × Option (List (Int × (List Int))) × Option Th × Option (Int × (List Int)) × Option Int × Unit
def R_lbegun_due : ERep E_lbegun_due := (eFr (rz (oT (rz (oT rI)))) (eBo (oL (rz (oT2 rI (rz (oT rI))))) (eFr rTh (eFr (rz (oT2 rI (rz (oT rI)))) (eFr rI eNil)))))
abbrev l_lbegun_due_0 : Ln E_lbegun_due (List (List Int)) := Ln.z
theorem a_lbegun_due_0 : FrAt R_lbegun_due 0 (rz (oT (rz (oT rI)))) l_lbegun_due_0 := FrAt.z
abbrev l_lbegun_due_1 : Ln E_lbegun_due (List (Int × (List Int))) := (Ln.s Ln.z)
theorem a_lbegun_due_1 : BoAt R_lbegun_due 1 (oL (rz (oT2 rI (rz (oT rI))))) l_lbegun_due_1 := (BoAt.sF BoAt.z)
abbrev l_lbegun_due_2 : Ln E_lbegun_due Th := (Ln.s (Ln.s Ln.z))
theorem a_lbegun_due_2 : FrAt R_lbegun_due 2 rTh l_lbegun_due_2 := (FrAt.sF (FrAt.sB FrAt.z))
abbrev l_lbegun_due_3 : Ln E_lbegun_due (Int × (List Int)) := (Ln.s (Ln.s (Ln.s Ln.z)))
theorem a_lbegun_due_3 : FrAt R_lbegun_due 3 (rz (oT2 rI (rz (oT rI)))) l_lbegun_due_3 := (FrAt.sF (FrAt.sB (FrAt.sF FrAt.z)))
abbrev l_lbegun_due_4 : Ln E_lbegun_due Int := (Ln.s (Ln.s (Ln.s (Ln.s Ln.z))))
theorem a_lbegun_due_4 : FrAt R_lbegun_due 4 rI l_lbegun_due_4 := (FrAt.sF (FrAt.sB (FrAt.sF (FrAt.sF FrAt.z))))
def M_lbegun_due : E_lbegun_due → So E_lbegun_due (((List (List Int)) × (List (Int × (List Int)))) ⊕ Str) :=
    (mSeq (mIfS (mNot (mCall (fun p => m_lis_number (p.1) (p.2.1) (p.2.2)) (mPair (mVar l_lbegun_due_2) (mPair (mC (1 : Int)) (mUn gLen (mVar l_lbegun_due_0)))))) (mRet (mUn (toR (α := ((List (List Int)) × (List (Int × (List Int)))))) (mC ("NoPiece" : Str)))) mNext)
    (mRet (mUn (toL (β := Str)) (mUn some (mPair (mUn gId (mLc (mSlL gCut l_lbegun_due_1 (mC none) (mPart (mUn asI (mVar l_lbegun_due_2)))) (pN l_lbegun_due_3) mYes (mOp gIx (mVar l_lbegun_due_0) (mOp gFst (mVar l_lbegun_due_3) (mC (0 : Int)))) (fun e => Ln.put l_lbegun_due_3 none (id e)) (fun e e1 => (fun _ e1 => e1) e (Ln.put l_lbegun_due_3 (Ln.get l_lbegun_due_3 (id e)) e1)))) (mLc (mRng1 (mUn asI (mVar l_lbegun_due_2))) (pN l_lbegun_due_4) mYes (mUn some (mPair (mVar l_lbegun_due_4) (mOp gSnd (mOpL gIx l_lbegun_due_1 (mVar l_lbegun_due_4)) (mC (1 : Int))))) (fun e => Ln.put l_lbegun_due_4 none (id e)) (fun e e1 => (fun _ e1 => e1) e (Ln.put l_lbegun_due_4 (Ln.get l_lbegun_due_4 (id e)) e1))))))))
def m_lbegun_due (x0 : (List (List Int))) (x1 : (List (Int × (List Int)))) (x2 : Th) : Rs Unit (((List (List Int)) × (List (Int × (List Int)))) ⊕ Str) := (M_lbegun_due (some x0, some x1, some x2, none, none, ())).run none
abbrev u_lbegun_due (p : (List (List Int)) × (List (Int × (List Int))) × Th) : Rs Unit (((List (List Int)) × (List (Int × (List Int)))) ⊕ Str) := m_lbegun_due (p.1) (p.2.1) (p.2.2)
def sp_lbegun_due (K : PySem.W.Frag) : Sp := spD K cx0 (aCons (ir (rz (oT (rz (oT rI))))) (aCons (rd (oL (rz (oT2 rI (rz (oT rI)))))) (aOne (ir rTh)))) (fz (rSum (rz (oT2 (rz (oT (rz (oT rI)))) (rz (oL (rz (oT2 rI (rz (oT rI)))))))) rS)) u_lbegun_due
theorem len_lbegun_due (K : PySem.W.Frag) : ∀ vs H Q E, sp_lbegun_due K vs H Q E → vs.length = 3 := len_D (ALen.cons (ALen.cons ALen.one))
def t_lbegun_due (K : PySem.W.Frag) : TS :=
    (tSeq (tIfS (tNot (tB (tCall (sp_lis_number K) [] E0 (tCons (tVar 2) (tCons (tC (.int 1)) (tCons (tCB (rLenL K) (tCons (tVar 0) tNil)) tNil)))))) (tRet (tC (.str "NoPiece"))) tNext)
    (tRet (tTup (tCons (tCB (rTupOf K) (tCons (tLc (iList K (tSl (rSlL K) (tVar 1) tNoPart (tPart (tVar 2)))) (gName 3) tYes (tOp (rIxT K) (tVar 0) (tOp (rIxT K) (tVar 3) (tC (.int 0)))) [3]) tNil)) (tCons (tLc (iRng1 (tCons (tVar 2) tNil)) (gName 4) tYes (tTup (tCons (tVar 4) (tCons (tOp (rIxT K) (tOp (rIxL K) (tVar 1) (tVar 4)) (tC (.int 1))) tNil))) [4]) tNil)))))
theorem sx_lbegun_due {K : PySem.W.Frag} : SX ⟨K, E0, cx0⟩ R_lbegun_due (fz (rSum (rz (oT2 (rz (oT (rz (oT rI)))) (rz (oL (rz (oT2 rI (rz (oT rI)))))))) rS)) (t_lbegun_due K) M_lbegun_due :=
    (s_seq (s_if (x_not (x_tB (x_call (x_acons Cv.id (x_var a_lbegun_due_2) (x_acons Cv.id (x_c fun _ => rfl) (x_aone (x_is Cv.id (x_tCB v_lenT (x_aone (x_is Cv.ob (x_var a_lbegun_due_0))))))))))) (s_ret (x_cast c_toR (x_c fun _ => rfl))) s_next)
    (s_ret (x_cast c_toL (x_tup2 (x_p2 (x_tCB v_tupOfL (x_aone (x_is Cv.ob (x_fz (x_lc (x_iL (x_fz (x_slLF v_slL (Late.bo a_lbegun_due_1) x_noPart (x_part (x_cast c_asI (x_var a_lbegun_due_2)))))) (Wp.cons a_lbegun_due_3 Wp.nil) (n_name a_lbegun_due_3 (by decide)) x_yes (x_tOp v_ixT Cv.ob (x_var a_lbegun_due_0) (x_is Cv.id (x_tOp v_t20 Cv.ob (x_var a_lbegun_due_3) (x_is Cv.id (x_c fun _ => rfl)))))))))) (x_fz (x_lc (x_rng1 (x_aone (x_is Cv.id (x_cast c_asI (x_var a_lbegun_due_2))))) (Wp.cons a_lbegun_due_4 Wp.nil) (n_name a_lbegun_due_4 (by decide)) x_yes (x_tup2 (x_p2 (x_var a_lbegun_due_4) (x_tOp v_t21 Cv.ob (x_tOpL v_ixL (Late.bo a_lbegun_due_1) (x_is Cv.id (x_var a_lbegun_due_4))) (x_is Cv.id (x_c fun _ => rfl))))))))))))
theorem rd_lbegun_due {K : PySem.W.Frag} {H : Hp} {vs : List V} {Q : VK} {E : XK} {N : List Str} (h : sp_lbegun_due K vs H Q E) (hN : N.length = 5 := by rfl) : t_lbegun_due K { nx := fun _ H' => Q .non H', rt := Q } (start N vs) H := by
  have h : spD K cx0 (aCons (ir (rz (oT (rz (oT rI))))) (aCons (rd (oL (rz (oT2 rI (rz (oT rI)))))) (aOne (ir rTh)))) (fz (rSum (rz (oT2 (rz (oT (rz (oT rI)))) (rz (oL (rz (oT2 rI (rz (oT rI)))))))) rS)) (fun (a : (List (List Int)) × (List (Int × (List Int))) × Th) => (M_lbegun_due (some a.1, some a.2.1, some a.2.2, none, none, ())).run none) vs H Q E := h
  refine d_D (dn := none) (ra := (aCons (ir (rz (oT (rz (oT rI))))) (aCons (rd (oL (rz (oT2 rI (rz (oT rI)))))) (aOne (ir rTh))))) (e0 := fun (a : (List (List Int)) × (List (Int × (List Int))) × Th) => (some a.1, some a.2.1, some a.2.2, none, none, ())) (sx_lbegun_due) ?_ ?_ h
  · intro G H vs a s hr
    obtain ⟨v0, _, rfl, h0, ⟨v1, _, rfl, h1, ⟨v2, rfl, h2⟩⟩⟩ := hr
    rw [show start N [v0, v1, v2] = [some v0, some v1, some v2, none, none] by simp [L2.start, hN]]
    exact (e_fr h0 (e_bo h1 bo_D (e_fr h2 (e_frN (e_frN e_nil)))))
  · intro b h; cases h
abbrev E_lbegun_right : Type := Option ((List Int) × Int × Int) × Option (List (List Int)) × Option (List (Int × (List Int))) × Option (List Int) × Option Int × Option (List Th) × Option Th × Option (((List (List Int)) × (List (Int × (List Int)))) ⊕ Str) × Option Int × Option (List (Int × (List Int))) × Option (((List (List Int)) × (List (Int × (List Int)))) ⊕ Str) × Unit
def R0_lbegun_right : ERep E_lbegun_right := (eIo 0 (oL3 rScr rI rI) (eFr (rz (oT (rz (oT rI)))) (eFr (rz (oL (rz (oT2 rI (rz (oT rI)))))) (eFr (rz (oL rI)) (eFr rI (eFr (rz (oL rTh)) (eFr rTh (eFr (rSum (rz (oT2 (rz (oT (rz (oT rI)))) (rz (oL (rz (oT2 rI (rz (oT rI)))))))) rS) (eFr rI (eFr (rz (oL (rz (oT2 rI (rz (oT rI)))))) (eFr (rSum (rz (oT2 (rz (oT (rz (oT rI)))) (rz (oL (rz (oT2 rI (rz (oT rI)))))))) rS) eNil)))))))))))
def R_lbegun_right (Pt : Addr) (qt : Str) : ERep E_lbegun_right := (eTb Pt qt R0_lbegun_right)
abbrev l_lbegun_right_0 : Ln E_lbegun_right ((List Int) × Int × Int) := Ln.z
theorem a0_lbegun_right_0 : OwAt R0_lbegun_right 0 (ownI 0) (oL3 rScr rI rI) l_lbegun_right_0 := OwAt.z
theorem a_lbegun_right_0 {Pt : Addr} {qt : Str} : OwAt (R_lbegun_right Pt qt) 0 (ownI 0) (oL3 rScr rI rI) l_lbegun_right_0 := OwAt.sT a0_lbegun_right_0
abbrev l_lbegun_right_1 : Ln E_lbegun_right (List (List Int)) := (Ln.s Ln.z)
theorem a0_lbegun_right_1 : FrAt R0_lbegun_right 1 (rz (oT (rz (oT rI)))) l_lbegun_right_1 := (FrAt.sO FrAt.z)
theorem a_lbegun_right_1 {Pt : Addr} {qt : Str} : FrAt (R_lbegun_right Pt qt) 1 (rz (oT (rz (oT rI)))) l_lbegun_right_1 := FrAt.sT a0_lbegun_right_1
abbrev l_lbegun_right_2 : Ln E_lbegun_right (List (Int × (List Int))) := (Ln.s (Ln.s Ln.z))
theorem a0_lbegun_right_2 : FrAt R0_lbegun_right 2 (rz (oL (rz (oT2 rI (rz (oT rI)))))) l_lbegun_right_2 := (FrAt.sO (FrAt.sF FrAt.z))
theorem a_lbegun_right_2 {Pt : Addr} {qt : Str} : FrAt (R_lbegun_right Pt qt) 2 (rz (oL (rz (oT2 rI (rz (oT rI)))))) l_lbegun_right_2 := FrAt.sT a0_lbegun_right_2
abbrev l_lbegun_right_3 : Ln E_lbegun_right (List Int) := (Ln.s (Ln.s (Ln.s Ln.z)))
theorem a0_lbegun_right_3 : FrAt R0_lbegun_right 3 (rz (oL rI)) l_lbegun_right_3 := (FrAt.sO (FrAt.sF (FrAt.sF FrAt.z)))
theorem a_lbegun_right_3 {Pt : Addr} {qt : Str} : FrAt (R_lbegun_right Pt qt) 3 (rz (oL rI)) l_lbegun_right_3 := FrAt.sT a0_lbegun_right_3
abbrev l_lbegun_right_4 : Ln E_lbegun_right Int := (Ln.s (Ln.s (Ln.s (Ln.s Ln.z))))
theorem a0_lbegun_right_4 : FrAt R0_lbegun_right 4 rI l_lbegun_right_4 := (FrAt.sO (FrAt.sF (FrAt.sF (FrAt.sF FrAt.z))))
theorem a_lbegun_right_4 {Pt : Addr} {qt : Str} : FrAt (R_lbegun_right Pt qt) 4 rI l_lbegun_right_4 := FrAt.sT a0_lbegun_right_4
abbrev l_lbegun_right_5 : Ln E_lbegun_right (List Th) := (Ln.s (Ln.s (Ln.s (Ln.s (Ln.s Ln.z)))))
theorem a0_lbegun_right_5 : FrAt R0_lbegun_right 5 (rz (oL rTh)) l_lbegun_right_5 := (FrAt.sO (FrAt.sF (FrAt.sF (FrAt.sF (FrAt.sF FrAt.z)))))
theorem a_lbegun_right_5 {Pt : Addr} {qt : Str} : FrAt (R_lbegun_right Pt qt) 5 (rz (oL rTh)) l_lbegun_right_5 := FrAt.sT a0_lbegun_right_5
abbrev l_lbegun_right_6 : Ln E_lbegun_right Th := (Ln.s (Ln.s (Ln.s (Ln.s (Ln.s (Ln.s Ln.z))))))
theorem a0_lbegun_right_6 : FrAt R0_lbegun_right 6 rTh l_lbegun_right_6 := (FrAt.sO (FrAt.sF (FrAt.sF (FrAt.sF (FrAt.sF (FrAt.sF FrAt.z))))))
theorem a_lbegun_right_6 {Pt : Addr} {qt : Str} : FrAt (R_lbegun_right Pt qt) 6 rTh l_lbegun_right_6 := FrAt.sT a0_lbegun_right_6
abbrev l_lbegun_right_7 : Ln E_lbegun_right (((List (List Int)) × (List (Int × (List Int)))) ⊕ Str) := (Ln.s (Ln.s (Ln.s (Ln.s (Ln.s (Ln.s (Ln.s Ln.z)))))))
theorem a0_lbegun_right_7 : FrAt R0_lbegun_right 7 (rSum (rz (oT2 (rz (oT (rz (oT rI)))) (rz (oL (rz (oT2 rI (rz (oT rI)))))))) rS) l_lbegun_right_7 := (FrAt.sO (FrAt.sF (FrAt.sF (FrAt.sF (FrAt.sF (FrAt.sF (FrAt.sF FrAt.z)))))))
theorem a_lbegun_right_7 {Pt : Addr} {qt : Str} : FrAt (R_lbegun_right Pt qt) 7 (rSum (rz (oT2 (rz (oT (rz (oT rI)))) (rz (oL (rz (oT2 rI (rz (oT rI)))))))) rS) l_lbegun_right_7 := FrAt.sT a0_lbegun_right_7
abbrev l_lbegun_right_8 : Ln E_lbegun_right Int := (Ln.s (Ln.s (Ln.s (Ln.s (Ln.s (Ln.s (Ln.s (Ln.s Ln.z))))))))
theorem a0_lbegun_right_8 : FrAt R0_lbegun_right 8 rI l_lbegun_right_8 := (FrAt.sO (FrAt.sF (FrAt.sF (FrAt.sF (FrAt.sF (FrAt.sF (FrAt.sF (FrAt.sF FrAt.z))))))))
theorem a_lbegun_right_8 {Pt : Addr} {qt : Str} : FrAt (R_lbegun_right Pt qt) 8 rI l_lbegun_right_8 := FrAt.sT a0_lbegun_right_8
abbrev l_lbegun_right_9 : Ln E_lbegun_right (List (Int × (List Int))) := (Ln.s (Ln.s (Ln.s (Ln.s (Ln.s (Ln.s (Ln.s (Ln.s (Ln.s Ln.z)))))))))
theorem a0_lbegun_right_9 : FrAt R0_lbegun_right 9 (rz (oL (rz (oT2 rI (rz (oT rI)))))) l_lbegun_right_9 := (FrAt.sO (FrAt.sF (FrAt.sF (FrAt.sF (FrAt.sF (FrAt.sF (FrAt.sF (FrAt.sF (FrAt.sF FrAt.z)))))))))
theorem a_lbegun_right_9 {Pt : Addr} {qt : Str} : FrAt (R_lbegun_right Pt qt) 9 (rz (oL (rz (oT2 rI (rz (oT rI)))))) l_lbegun_right_9 := FrAt.sT a0_lbegun_right_9
abbrev l_lbegun_right_10 : Ln E_lbegun_right (((List (List Int)) × (List (Int × (List Int)))) ⊕ Str) := (Ln.s (Ln.s (Ln.s (Ln.s (Ln.s (Ln.s (Ln.s (Ln.s (Ln.s (Ln.s Ln.z))))))))))
theorem a0_lbegun_right_10 : FrAt R0_lbegun_right 10 (rSum (rz (oT2 (rz (oT (rz (oT rI)))) (rz (oL (rz (oT2 rI (rz (oT rI)))))))) rS) l_lbegun_right_10 := (FrAt.sO (FrAt.sF (FrAt.sF (FrAt.sF (FrAt.sF (FrAt.sF (FrAt.sF (FrAt.sF (FrAt.sF (FrAt.sF FrAt.z))))))))))
theorem a_lbegun_right_10 {Pt : Addr} {qt : Str} : FrAt (R_lbegun_right Pt qt) 10 (rSum (rz (oT2 (rz (oT (rz (oT rI)))) (rz (oL (rz (oT2 rI (rz (oT rI)))))))) rS) l_lbegun_right_10 := FrAt.sT a0_lbegun_right_10
def RS0_lbegun_right (Pt : Addr) (qt : Str) : ERep E_lbegun_right := (eTb Pt qt (eIo 0 (oL3 rScr rI rI) (eFr (rz (oT (rz (oT rI)))) (eH (hP (rz (oL (rz (oT2 rI (rz (oT rI))))))) (eH (hP (rz (oL rI))) (eFr rI (eH (hP (rz (oL rTh))) (eH (hP rTh) (eH (hP (rSum (rz (oT2 (rz (oT (rz (oT rI)))) (rz (oL (rz (oT2 rI (rz (oT rI)))))))) rS)) (eFr rI (eH (hN (rz (oL (rz (oT2 rI (rz (oT rI))))))) (eH (hN (rSum (rz (oT2 (rz (oT (rz (oT rI)))) (rz (oL (rz (oT2 rI (rz (oT rI)))))))) rS)) eNil))))))))))))
def kl0_lbegun_right : E_lbegun_right → E_lbegun_right := (fun e => (none, (fun e => (e.1, (fun e => (e.1, (fun e => (e.1, (fun e => (e.1, (fun e => (e.1, (fun e => (e.1, (fun e => (e.1, (fun e => (e.1, (fun e => (e.1, (fun e => (e.1, id e.2)) e.2)) e.2)) e.2)) e.2)) e.2)) e.2)) e.2)) e.2)) e.2)) e.2))
theorem wl0_lbegun_right : Wk2 (eIo 0 (oL3 rScr rI rI) (eFr (rz (oT (rz (oT rI)))) (eH (hP (rz (oL (rz (oT2 rI (rz (oT rI))))))) (eH (hP (rz (oL rI))) (eFr rI (eH (hP (rz (oL rTh))) (eH (hP rTh) (eH (hP (rSum (rz (oT2 (rz (oT (rz (oT rI)))) (rz (oL (rz (oT2 rI (rz (oT rI)))))))) rS)) (eFr rI (eH (hN (rz (oL (rz (oT2 rI (rz (oT rI))))))) (eH (hN (rSum (rz (oT2 (rz (oT (rz (oT rI)))) (rz (oL (rz (oT2 rI (rz (oT rI)))))))) rS)) eNil))))))))))) R0_lbegun_right kl0_lbegun_right := (Wk2.ow (Wk2.fr (Wk2.pa (Wk2.pa (Wk2.fr (Wk2.pa (Wk2.pa (Wk2.pa (Wk2.fr (Wk2.nw (Wk2.nw Wk2.nil)))))))))))
def ks0_lbegun_right : E_lbegun_right → E_lbegun_right := (fun e => (e.1, (fun e => (e.1, (fun e => (e.1, (fun e => (e.1, (fun e => (e.1, (fun e => (e.1, (fun e => (e.1, (fun e => (e.1, (fun e => (e.1, (fun e => (none, (fun e => (none, id e.2)) e.2)) e.2)) e.2)) e.2)) e.2)) e.2)) e.2)) e.2)) e.2)) e.2))
theorem sc0_lbegun_right {Pt : Addr} {qt : Str} : ScP (R_lbegun_right Pt qt) (RS0_lbegun_right Pt qt) ks0_lbegun_right := (ScP.tb (ScP.ow (ScP.fr (ScP.pa (ScP.pa (ScP.fr (ScP.pa (ScP.pa (ScP.pa (ScP.fr (ScP.nw (ScP.nw ScP.nil))))))))))))
def ws0_lbegun_right : E_lbegun_right → E_lbegun_right := (fun e => (e.1, (fun e => (e.1, (fun e => (e.1, (fun e => (e.1, (fun e => (e.1, (fun e => (e.1, (fun e => (e.1, (fun e => (e.1, (fun e => (e.1, (fun e => (none, (fun e => (none, id e.2)) e.2)) e.2)) e.2)) e.2)) e.2)) e.2)) e.2)) e.2)) e.2)) e.2))
theorem stbs0_lbegun_right {Pt : Addr} {qt : Str} : Stb (RS0_lbegun_right Pt qt) ws0_lbegun_right := (Stb.tb (Stb.ow (st_L3 st_Scr st_I st_I) (Stb.fr (st_T (st_T st_I)) (Stb.pa (Stb.pa (Stb.fr st_I (Stb.pa (Stb.pa (Stb.pa (Stb.fr st_I (Stb.hdK (Stb.hdK Stb.nil))))))))))))
theorem as0_lbegun_right_2 {Pt : Addr} {qt : Str} : HdAt (eS (RS0_lbegun_right Pt qt)) 2 (hP (rz (oL (rz (oT2 rI (rz (oT rI))))))) l_lbegun_right_2 := HdAt.sS (HdAt.sT (HdAt.sO (HdAt.sF HdAt.z)))
theorem as0_lbegun_right_7 {Pt : Addr} {qt : Str} : HdAt (eS (RS0_lbegun_right Pt qt)) 7 (hP (rSum (rz (oT2 (rz (oT (rz (oT rI)))) (rz (oL (rz (oT2 rI (rz (oT rI)))))))) rS)) l_lbegun_right_7 := HdAt.sS (HdAt.sT (HdAt.sO (HdAt.sF (HdAt.sH (HdAt.sH (HdAt.sF (HdAt.sH (HdAt.sH HdAt.z))))))))
theorem as0_lbegun_right_9 {Pt : Addr} {qt : Str} : HdAt (eS (RS0_lbegun_right Pt qt)) 9 (hN (rz (oL (rz (oT2 rI (rz (oT rI))))))) l_lbegun_right_9 := HdAt.sS (HdAt.sT (HdAt.sO (HdAt.sF (HdAt.sH (HdAt.sH (HdAt.sF (HdAt.sH (HdAt.sH (HdAt.sH (HdAt.sF HdAt.z))))))))))
theorem as0_lbegun_right_10 {Pt : Addr} {qt : Str} : HdAt (eS (RS0_lbegun_right Pt qt)) 10 (hN (rSum (rz (oT2 (rz (oT (rz (oT rI)))) (rz (oL (rz (oT2 rI (rz (oT rI)))))))) rS)) l_lbegun_right_10 := HdAt.sS (HdAt.sT (HdAt.sO (HdAt.sF (HdAt.sH (HdAt.sH (HdAt.sF (HdAt.sH (HdAt.sH (HdAt.sH (HdAt.sF (HdAt.sH HdAt.z)))))))))))
def M_lbegun_right : E_lbegun_right → So E_lbegun_right Bool :=
    (mSeq (mAsgN (mCallI l_lbegun_right_0 (fun s p => m_llaid s (p.1) (p.2)) (mPair (mOp gAdd (mC (1 : Int)) (mCallI l_lbegun_right_0 (fun s p => m_ltake s p) (mC (5 : Int)))) (mOp gIx (mUn szOk (mCons (mC (9 : Int)) (mCons (mC (9 : Int)) (mCons (mC (40 : Int)) (mC []))))) (mCallI l_lbegun_right_0 (fun s p => m_ltake s p) (mC (3 : Int)))))) (p3 (pN l_lbegun_right_1) (pN l_lbegun_right_2) (pN l_lbegun_right_3)))
    (mSeq (mSet l_lbegun_right_4 (mUn gLen (mVar l_lbegun_right_1)))
    (mSeq (mSet l_lbegun_right_5 (mUn szOk (mCons (mUn (toTh Th.int) (mVar l_lbegun_right_4)) (mCons (mUn (toTh Th.int) (mC (1 : Int))) (mCons (mUn (toTh Th.int) (mOp gAdd (mC (1 : Int)) (mCallI l_lbegun_right_0 (fun s p => m_ltake s p) (mVar l_lbegun_right_4)))) (mCons (mUn (toTh Th.int) (mC (0 : Int))) (mCons (mUn (toTh Th.int) (mUn gNeg (mC (1 : Int)))) (mCons (mUn (toTh Th.int) (mOp gAdd (mVar l_lbegun_right_4) (mC (1 : Int)))) (mCons (mUn (toTh Th.int) (mC (100000000000000000000000000000 : Int))) (mCons (mUn (toTh Th.bl) (mC true)) (mCons (mUn (toTh Th.bl) (mC false)) (mCons (mUn (toTh (fun _ => Th.non)) (mC ())) (mCons (mUn (toTh Th.str) (mC ("1" : Str))) (mCons (mUn (toTh (fun xs => Th.tup (List.map (fun t => t) xs))) (mUn szOk (mCons (mUn (toTh Th.int) (mC (1 : Int))) (mC [])))) (mC [])))))))))))))))
    (mCut (mKill (fun e => (Ln.put l_lbegun_right_6 none (Ln.put l_lbegun_right_7 none (Ln.put l_lbegun_right_8 none (Ln.put l_lbegun_right_9 none (Ln.put l_lbegun_right_10 none e)))))) (mFor (mVar l_lbegun_right_5) (pN l_lbegun_right_6)
    (mKill (fun e => (Ln.put l_lbegun_right_6 none (Ln.put l_lbegun_right_7 none (Ln.put l_lbegun_right_8 none (Ln.put l_lbegun_right_9 none (Ln.put l_lbegun_right_10 none e)))))) (mSeq (mSet l_lbegun_right_7 (mCall (fun p => m_lbegun_due (p.1) (p.2.1) (p.2.2)) (mPair (mVar l_lbegun_right_1) (mPair (mVar l_lbegun_right_2) (mVar l_lbegun_right_6)))))
    (mKill (fun e => (Ln.put l_lbegun_right_8 none (Ln.put l_lbegun_right_9 none (Ln.put l_lbegun_right_10 none e)))) (mFor (mRng1 (mC (2 : Int))) (pN l_lbegun_right_8)
    (mKill (fun e => (Ln.put l_lbegun_right_8 none (Ln.put l_lbegun_right_9 none (Ln.put l_lbegun_right_10 none e)))) (mScope ks0_lbegun_right (mSeq (mSet l_lbegun_right_9 (mUn gId (mVar l_lbegun_right_2)))
    (mSeq (mSet l_lbegun_right_10 (mLam (fun p => m_ltold_b p) kl0_lbegun_right (mCallP (fun a => (fun a => nl a.2) a.2) (fun p => m_begun (p.1) (p.2.1) (p.2.2)) (mPair (mVar l_lbegun_right_1) (mPair (mVar l_lbegun_right_9) (mVar l_lbegun_right_6))))))
    (mSeq (mIfB (mOr (mOp gNe (mUn (gReprE (erSum (En.er (enT2 (enT (enT enI)) (enL (enT2 enI (enT enI))))) erS)) (mVar l_lbegun_right_10)) (mUn (gReprE (erSum (En.er (enT2 (enT (enT enI)) (enL (enT2 enI (enT enI))))) erS)) (mVar l_lbegun_right_7))) (mOp gNe (mVar l_lbegun_right_9) (mVar l_lbegun_right_2))) (mRet (mC false)) mNext)
    (mIfS (mUn (gIsS true false) (mPair (mVar l_lbegun_right_10) (mC ()))) (mApp1N l_lbegun_right_10 ws0_lbegun_right) mNext))))))))))))
    (mRet (mC true))))))
def m_lbegun_right (x0 : ((List Int) × Int × Int)) : Rs ((List Int) × Int × Int) Bool := (M_lbegun_right (some x0, none, none, none, none, none, none, none, none, none, none, ())).runI l_lbegun_right_0 none
abbrev u_lbegun_right (s : ((List Int) × Int × Int)) (p : Unit) : Rs ((List Int) × Int × Int) Bool := m_lbegun_right s
def sp_lbegun_right (K : PySem.W.Frag) (Pt : Addr) (qt : Str) : Sp := spIT K Pt qt (oL3 rScr rI rI) aNil (fz rB) u_lbegun_right
theorem len_lbegun_right (K : PySem.W.Frag) (Pt : Addr) (qt : Str) : ∀ vs H Q E, sp_lbegun_right K Pt qt vs H Q E → vs.length = 1 := len_IT ALen.nil
def t_lbegun_right (K : PySem.W.Frag) (cx : Str → Addr) (Pt : Addr) (qt : Str) : TS :=
    (tSeq (tAsg (tCall (sp_llaid K) [] E0 (tCons (tVar 0) (tCons (tOp rAdd (tC (.int 1)) (tCall (sp_ltake K) [] E0 (tCons (tVar 0) (tCons (tC (.int 5)) tNil)))) (tCons (tOp (rIxL K) (tLst (tCons (tC (.int 9)) (tCons (tC (.int 9)) (tCons (tC (.int 40)) tNil)))) (tCall (sp_ltake K) [] E0 (tCons (tVar 0) (tCons (tC (.int 3)) tNil)))) tNil)))) (gTup K 3 (gCons (gName 1) (gCons (gName 2) (gCons (gName 3) gNil)))))
    (tSeq (tAsg (tCB (rLenL K) (tCons (tVar 1) tNil)) (gName 4))
    (tSeq (tAsg (tLst (tCons (tVar 4) (tCons (tC (.int 1)) (tCons (tOp rAdd (tC (.int 1)) (tCall (sp_ltake K) [] E0 (tCons (tVar 0) (tCons (tVar 4) tNil)))) (tCons (tC (.int 0)) (tCons (tUn (rU fun i => .int (-i)) (tC (.int 1))) (tCons (tOp rAdd (tVar 4) (tC (.int 1))) (tCons (tOp rPow (tC (.int 10)) (tC (.int 29))) (tCons (tC (.bl true)) (tCons (tC (.bl false)) (tCons (tC .non) (tCons (tC (.str "1")) (tCons (tTup (tCons (tC (.int 1)) tNil)) tNil))))))))))))) (gName 5))
    (tSeq (tFor (iList K (tVar 5)) (gName 6)
    (tSeq (tAsg (tCall (sp_lbegun_due K) [] E0 (tCons (tVar 1) (tCons (tVar 2) (tCons (tVar 6) tNil)))) (gName 7))
    (tFor (iRng1 (tCons (tC (.int 2)) tNil)) (gName 8)
    (tSeq (tAsg (tCB (rListOf K) (tCons (tVar 2) tNil)) (gName 9))
    (tSeq (tAsg (tLamG Pt qt (tt_ltold_b K cx) (fun E => (tCallS (sp_begun K cx) (WE fun cls d _ H => E cls d H) (tCons (tVar 1) (tCons (tVar 9) (tCons (tVar 6) tNil)))))) (gName 10))
    (tSeq (tIfS (tOr (tTest (tOp rNe (tCB (rReprA K) (tCons (tVar 10) tNil)) (tCB (rReprA K) (tCons (tVar 7) tNil)))) (tTest (tOp (rNeD K) (tVar 9) (tVar 2)))) (tRet (tC (.bl false))) tNext)
    (tIfS (tB (tCB (rIsi K) (tCons (tVar 10) (tCons (tC (.ty "tuple")) tNil)))) (tDrop (tBM K "list" rAppend (tOp (rIxT K) (tVar 10) (tC (.int 1))) (tCons (tC .non) tNil))) tNext)))))))
    (tRet (tC (.bl true)))))))
theorem sx_lbegun_right {K : PySem.W.Frag} {cx : Str → Addr} {Pt : Addr} {qt : Str} : SX ⟨K, E0, cx0⟩ (R_lbegun_right Pt qt) (fz rB) (t_lbegun_right K cx Pt qt) M_lbegun_right :=
    (s_seq (s_asgN (vs := [1, 2, 3]) (x_callI a_lbegun_right_0 ownI_q (x_pcons Cv.id (x_tOp v_add Cv.id (x_c fun _ => rfl) (x_is Cv.id (x_callI a_lbegun_right_0 ownI_q (x_pone Cv.id (x_c fun _ => rfl))))) (x_pone Cv.id (x_tOp v_ixL Cv.ob (x_fz (x_lst (x_lcons (x_c fun _ => rfl) (x_lcons (x_c fun _ => rfl) (x_lcons (x_c fun _ => rfl) x_lnil))))) (x_is Cv.id (x_callI a_lbegun_right_0 ownI_q (x_pone Cv.id (x_c fun _ => rfl)))))))) (n_tup3 (n_name a_lbegun_right_1 (by decide)) (n_name a_lbegun_right_2 (by decide)) (n_name a_lbegun_right_3 (by decide))))
    (s_seq (s_set a_lbegun_right_4 (x_tCB v_lenT (x_aone (x_is Cv.ob (x_var a_lbegun_right_1)))))
    (s_seq (s_set a_lbegun_right_5 (x_fz (x_lst (x_lcons (x_cast ci_I (x_var a_lbegun_right_4)) (x_lcons (x_cast ci_I (x_c fun _ => rfl)) (x_lcons (x_cast ci_I (x_tOp v_add Cv.id (x_c fun _ => rfl) (x_is Cv.id (x_callI a_lbegun_right_0 ownI_q (x_pone Cv.id (x_var a_lbegun_right_4)))))) (x_lcons (x_cast ci_I (x_c fun _ => rfl)) (x_lcons (x_cast ci_I (x_tUn v_neg (x_is Cv.id (x_c fun _ => rfl)))) (x_lcons (x_cast ci_I (x_tOp v_add Cv.id (x_var a_lbegun_right_4) (x_is Cv.id (x_c fun _ => rfl)))) (x_lcons (x_cast ci_I (x_powc (by decide))) (x_lcons (x_cast ci_B (x_c fun _ => rfl)) (x_lcons (x_cast ci_B (x_c fun _ => rfl)) (x_lcons (x_cast ci_N (x_c fun _ => rfl)) (x_lcons (x_cast ci_S (x_c fun _ => rfl)) (x_lcons (x_cast (ci_T ci_id) (x_tup (x_lcons (x_cast ci_I (x_c fun _ => rfl)) x_lnil))) x_lnil)))))))))))))))
    (s_seqC (s_kill (Kl.and (Kl.fr a_lbegun_right_6) (Kl.and (Kl.fr a_lbegun_right_7) (Kl.and (Kl.fr a_lbegun_right_8) (Kl.and (Kl.fr a_lbegun_right_9) (Kl.fr a_lbegun_right_10))))) (s_for (vs := [6]) (x_iL (x_var a_lbegun_right_5)) (n_name a_lbegun_right_6 (by decide))
    (s_kill (Kl.and (Kl.fr a_lbegun_right_6) (Kl.and (Kl.fr a_lbegun_right_7) (Kl.and (Kl.fr a_lbegun_right_8) (Kl.and (Kl.fr a_lbegun_right_9) (Kl.fr a_lbegun_right_10))))) (s_seq (s_set a_lbegun_right_7 (x_call (x_acons Cv.id (x_var a_lbegun_right_1) (x_acons Cv.ob (x_var a_lbegun_right_2) (x_aone (x_is Cv.id (x_var a_lbegun_right_6)))))))
    (s_kill (Kl.and (Kl.fr a_lbegun_right_8) (Kl.and (Kl.fr a_lbegun_right_9) (Kl.fr a_lbegun_right_10))) (s_for (vs := [8]) (x_rng1 (x_aone (x_is Cv.id (x_c fun _ => rfl)))) (n_name a_lbegun_right_8 (by decide))
    (s_kill (Kl.and (Kl.fr a_lbegun_right_8) (Kl.and (Kl.fr a_lbegun_right_9) (Kl.fr a_lbegun_right_10))) (s_scope sc0_lbegun_right (wx_seq (SX.w (s_setN as0_lbegun_right_9 (x_nfO (st_T2 st_I (st_T st_I)) (x_tCBF v_lstOfL (x_aone (x_is Cv.ob (x_varP as0_lbegun_right_2)))))))
    (wx_seq (SX.w (s_setN as0_lbegun_right_10 (x_lamN wl0_lbegun_right (fun E => (x_callNESP (astb_cons (st_T (st_T st_I)) (astb_consR (st_T2 st_I (st_T st_I)) astb_th)) (x_acons Cv.id (x_var a0_lbegun_right_1) (x_acons Cv.ob (x_var a0_lbegun_right_9) (x_aone (x_is Cv.id (x_var a0_lbegun_right_6))))))))))
    (wx_seq (SX.w (s_ifB (x_or (x_test (x_tOp v_neS Cv.id (x_tCB (v_reprE (daa_Sum (Da.er (da_T2 (da_T (da_T da_I)) (da_L (da_T2 da_I (da_T da_I))))) daa_S) (by decide)) (x_aone (x_is Cv.id (x_nf (x_varN as0_lbegun_right_10))))) (x_is Cv.id (x_tCB (v_reprE (daa_Sum (Da.er (da_T2 (da_T (da_T da_I)) (da_L (da_T2 da_I (da_T da_I))))) daa_S) (by decide)) (x_aone (x_is Cv.id (x_varP as0_lbegun_right_7))))))) (x_test (x_tOp (v_neD (da_Lr (da_T2 da_I (da_T da_I))) (da_Lr (da_T2 da_I (da_T da_I))) (eq_L (eq_T2 eq_I (eq_T eq_I))) (by decide)) Cv.ob (x_nf (x_varN as0_lbegun_right_9)) (x_is Cv.ob (x_varP as0_lbegun_right_2))))) (s_ret (x_c fun _ => rfl)) s_next))
    (wx_if (x_tB (x_tCB (v_isiS (kd_z kd_T2r) kd_S (fun _ => kit_ty (by decide +kernel)) (fun _ => kit_ty (by decide +kernel))) (x_acons Cv.id (x_nf (x_varN as0_lbegun_right_10)) (x_aone (x_is Cv.id (x_c (r := rTy "tuple") (a := ()) fun _ => rfl)))))) (wx_app1N as0_lbegun_right_10 stbs0_lbegun_right) (SX.w s_next)))))))))))))
    (s_ret (x_c fun _ => rfl))))))
theorem rd_lbegun_right {K : PySem.W.Frag} {cx : Str → Addr} {Pt : Addr} {qt : Str} {H : Hp} {vs : List V} {Q : VK} {E : XK} {N : List Str} (h : sp_lbegun_right K Pt qt vs H Q E) (hN : N.length = 11 := by rfl) : t_lbegun_right K cx Pt qt { nx := fun _ H' => Q .non H', rt := Q } (start N vs) H := by
  have h : spIT K Pt qt (oL3 rScr rI rI) aNil (fz rB) (fun (s : ((List Int) × Int × Int)) (a : Unit) => (M_lbegun_right (some s, none, none, none, none, none, none, none, none, none, none, ())).runI l_lbegun_right_0 none) vs H Q E := h
  refine d_IT (dn := none) (ra := aNil) (e0 := fun (s : ((List Int) × Int × Int)) (a : Unit) => (some s, none, none, none, none, none, none, none, none, none, none, ())) (sx_lbegun_right) a_lbegun_right_0 ?_ ?_ h
  · intro G H p ho st ws a k1 k2 k3 s hr
    obtain rfl := hr
    rw [show start N [.ref p] = [some (.ref p), none, none, none, none, none, none, none, none, none, none] by simp [L2.start, hN]]
    exact e_io k1 k2 k3 rfl ⟨rfl, rfl⟩ (e_frN (e_frN (e_frN (e_frN (e_frN (e_frN (e_frN (e_frN (e_frN (e_frN e_nil))))))))))
  · intro b h; cases h
abbrev E_law : Type := Option (List Int) × Option ((List Int) × Int × Int) × Option Int × Option (List (List Int)) × Option (List Int) × Option Int × Option (List Th) × Option (List Th) × Option ((List (List Int)) ⊕ Str) × Unit
def R0_law : ERep E_law := (eFr rScr (eOw (oL3 rScr rI rI) (eFr rI (eFr (rz (oT (rz (oT rI)))) (eFr (rz (oL rI)) (eFr rI (eFr (rz (oL rTh)) (eFr (rz (oL rTh)) (eFr (rSum (rz (oT (rz (oT rI)))) rS) eNil)))))))))
def kl_law : E_law → E_law := (fun e => (e.1, (fun e => (none, (fun e => (e.1, (fun e => (e.1, (fun e => (e.1, (fun e => (e.1, (fun e => (e.1, (fun e => (e.1, (fun e => (e.1, id e.2)) e.2)) e.2)) e.2)) e.2)) e.2)) e.2)) e.2)) e.2))
theorem wk_law : Wk2 R0_law R0_law kl_law := (Wk2.fr (Wk2.ow (Wk2.fr (Wk2.fr (Wk2.fr (Wk2.fr (Wk2.fr (Wk2.fr (Wk2.fr Wk2.nil)))))))))
def R_law (Pt : Addr) (qt : Str) (Pt2 : Addr) (qt2 : Str) : ERep E_law := (eTb Pt qt (eTb Pt2 qt2 R0_law))
abbrev l_law_0 : Ln E_law (List Int) := Ln.z
theorem a0_law_0 : FrAt R0_law 0 rScr l_law_0 := FrAt.z
theorem a_law_0 {Pt : Addr} {qt : Str} {Pt2 : Addr} {qt2 : Str} : FrAt (R_law Pt qt Pt2 qt2) 0 rScr l_law_0 := FrAt.sT (FrAt.sT a0_law_0)
abbrev l_law_1 : Ln E_law ((List Int) × Int × Int) := (Ln.s Ln.z)
theorem a0_law_1 : OwAt R0_law 1 ownN (oL3 rScr rI rI) l_law_1 := (OwAt.sF OwAt.z)
theorem a_law_1 {Pt : Addr} {qt : Str} {Pt2 : Addr} {qt2 : Str} : OwAt (R_law Pt qt Pt2 qt2) 1 ownN (oL3 rScr rI rI) l_law_1 := OwAt.sT (OwAt.sT a0_law_1)
abbrev l_law_2 : Ln E_law Int := (Ln.s (Ln.s Ln.z))
theorem a0_law_2 : FrAt R0_law 2 rI l_law_2 := (FrAt.sF (FrAt.sO FrAt.z))
theorem a_law_2 {Pt : Addr} {qt : Str} {Pt2 : Addr} {qt2 : Str} : FrAt (R_law Pt qt Pt2 qt2) 2 rI l_law_2 := FrAt.sT (FrAt.sT a0_law_2)
abbrev l_law_3 : Ln E_law (List (List Int)) := (Ln.s (Ln.s (Ln.s Ln.z)))
theorem a0_law_3 : FrAt R0_law 3 (rz (oT (rz (oT rI)))) l_law_3 := (FrAt.sF (FrAt.sO (FrAt.sF FrAt.z)))
theorem a_law_3 {Pt : Addr} {qt : Str} {Pt2 : Addr} {qt2 : Str} : FrAt (R_law Pt qt Pt2 qt2) 3 (rz (oT (rz (oT rI)))) l_law_3 := FrAt.sT (FrAt.sT a0_law_3)
abbrev l_law_4 : Ln E_law (List Int) := (Ln.s (Ln.s (Ln.s (Ln.s Ln.z))))
theorem a0_law_4 : FrAt R0_law 4 (rz (oL rI)) l_law_4 := (FrAt.sF (FrAt.sO (FrAt.sF (FrAt.sF FrAt.z))))
theorem a_law_4 {Pt : Addr} {qt : Str} {Pt2 : Addr} {qt2 : Str} : FrAt (R_law Pt qt Pt2 qt2) 4 (rz (oL rI)) l_law_4 := FrAt.sT (FrAt.sT a0_law_4)
abbrev l_law_5 : Ln E_law Int := (Ln.s (Ln.s (Ln.s (Ln.s (Ln.s Ln.z)))))
theorem a0_law_5 : FrAt R0_law 5 rI l_law_5 := (FrAt.sF (FrAt.sO (FrAt.sF (FrAt.sF (FrAt.sF FrAt.z)))))
theorem a_law_5 {Pt : Addr} {qt : Str} {Pt2 : Addr} {qt2 : Str} : FrAt (R_law Pt qt Pt2 qt2) 5 rI l_law_5 := FrAt.sT (FrAt.sT a0_law_5)
abbrev l_law_6 : Ln E_law (List Th) := (Ln.s (Ln.s (Ln.s (Ln.s (Ln.s (Ln.s Ln.z))))))
theorem a0_law_6 : FrAt R0_law 6 (rz (oL rTh)) l_law_6 := (FrAt.sF (FrAt.sO (FrAt.sF (FrAt.sF (FrAt.sF (FrAt.sF FrAt.z))))))
theorem a_law_6 {Pt : Addr} {qt : Str} {Pt2 : Addr} {qt2 : Str} : FrAt (R_law Pt qt Pt2 qt2) 6 (rz (oL rTh)) l_law_6 := FrAt.sT (FrAt.sT a0_law_6)
abbrev l_law_7 : Ln E_law (List Th) := (Ln.s (Ln.s (Ln.s (Ln.s (Ln.s (Ln.s (Ln.s Ln.z)))))))
theorem a0_law_7 : FrAt R0_law 7 (rz (oL rTh)) l_law_7 := (FrAt.sF (FrAt.sO (FrAt.sF (FrAt.sF (FrAt.sF (FrAt.sF (FrAt.sF FrAt.z)))))))
theorem a_law_7 {Pt : Addr} {qt : Str} {Pt2 : Addr} {qt2 : Str} : FrAt (R_law Pt qt Pt2 qt2) 7 (rz (oL rTh)) l_law_7 := FrAt.sT (FrAt.sT a0_law_7)
abbrev l_law_8 : Ln E_law ((List (List Int)) ⊕ Str) := (Ln.s (Ln.s (Ln.s (Ln.s (Ln.s (Ln.s (Ln.s (Ln.s Ln.z))))))))
theorem a0_law_8 : FrAt R0_law 8 (rSum (rz (oT (rz (oT rI)))) rS) l_law_8 := (FrAt.sF (FrAt.sO (FrAt.sF (FrAt.sF (FrAt.sF (FrAt.sF (FrAt.sF (FrAt.sF FrAt.z))))))))
theorem a_law_8 {Pt : Addr} {qt : Str} {Pt2 : Addr} {qt2 : Str} : FrAt (R_law Pt qt Pt2 qt2) 8 (rSum (rz (oT (rz (oT rI)))) rS) l_law_8 := FrAt.sT (FrAt.sT a0_law_8)
def M_law : E_law → So E_law Bool :=
    (mSeq (mSet l_law_1 (mUn some (mPair (mVar l_law_0) (mPair (mC (0 : Int)) (mC (0 : Int))))))
    (mCut (mKill (fun e => (Ln.put l_law_2 none (Ln.put l_law_3 none (Ln.put l_law_4 none (Ln.put l_law_5 none (Ln.put l_law_6 none (Ln.put l_law_7 none (Ln.put l_law_8 none e)))))))) (mFor (mRng1 (mC (2 : Int))) (pN l_law_2)
    (mKill (fun e => (Ln.put l_law_2 none (Ln.put l_law_3 none (Ln.put l_law_4 none (Ln.put l_law_5 none (Ln.put l_law_6 none (Ln.put l_law_7 none (Ln.put l_law_8 none e)))))))) (mSeq (mAsgN (mCallI l_law_1 (fun s p => m_lshape s ) (mC ())) (p2 (pN l_law_3) (pN l_law_4)))
    (mCut (mKill (fun e => (Ln.put l_law_5 none (Ln.put l_law_6 none (Ln.put l_law_7 none (Ln.put l_law_8 none e))))) (mFor (mRng1 (mC (6 : Int))) (pN l_law_5)
    (mKill (fun e => (Ln.put l_law_5 none (Ln.put l_law_6 none (Ln.put l_law_7 none (Ln.put l_law_8 none e))))) (mSeq (mSet l_law_6 (mCallI l_law_1 (fun s p => m_lnumbers s p) (mUn gLen (mVar l_law_3))))
    (mCut (mIfS (mOp gEq (mVar l_law_5) (mC (5 : Int))) (mSet l_law_6 (mUn szOk (mC ([] : List Th)))) mNext)
    (mSeq (mSet l_law_7 (mUn gId (mVar l_law_6)))
    (mSeq (mSet l_law_8 (mCall (fun p => m_lpart_due (p.1) (p.2)) (mPair (mVar l_law_3) (mVar l_law_6))))
    (mIfB (mOr (mOp gNe (mUn (gReprE (erSum (En.er (enT (enT enI))) erS)) (mLam (fun p => m_ltold p) kl_law (mCallE (fun p => m_part (p.1) (p.2)) (mPair (mVar l_law_3) (mVar l_law_7))))) (mUn (gReprE (erSum (En.er (enT (enT enI))) erS)) (mVar l_law_8))) (mOp gNe (mUn gReprT (mUn (toTh (fun xs => Th.lst (List.map (fun t => t) xs))) (mVar l_law_7))) (mUn gReprT (mUn (toTh (fun xs => Th.lst (List.map (fun t => t) xs))) (mVar l_law_6))))) (mRet (mC false)) mNext))))))))
    (mIfS (mNot (mCallI l_law_1 (fun s p => m_lbegun_right s ) (mC ()))) (mRet (mC false)) mNext))))))
    (mRet (mC true))))
def m_law (x0 : (List Int)) : Rs Unit Bool := (M_law (some x0, none, none, none, none, none, none, none, none, ())).run none
abbrev u_law (p : (List Int)) : Rs Unit Bool := m_law p
def sp_law (K : PySem.W.Frag) (Pt : Addr) (qt : Str) (Pt2 : Addr) (qt2 : Str) : Sp := spDT2 K Pt qt Pt2 qt2 (aOne (ir rScr)) (fz rB) u_law
theorem len_law (K : PySem.W.Frag) (Pt : Addr) (qt : Str) (Pt2 : Addr) (qt2 : Str) : ∀ vs H Q E, sp_law K Pt qt Pt2 qt2 vs H Q E → vs.length = 1 := len_DT2 ALen.one
def t_law (K : PySem.W.Frag) (cx : Str → Addr) (Pt : Addr) (qt : Str) (Pt2 : Addr) (qt2 : Str) : TS :=
    (tSeq (tAsg (tLst (tCons (tVar 0) (tCons (tC (.int 0)) (tCons (tC (.int 0)) tNil)))) (gName 1))
    (tSeq (tFor (iRng1 (tCons (tC (.int 2)) tNil)) (gName 2)
    (tSeq (tAsg (tCall (sp_lshape K) [] E0 (tCons (tVar 1) tNil)) (gTup K 2 (gCons (gName 3) (gCons (gName 4) gNil))))
    (tSeq (tFor (iRng1 (tCons (tC (.int 6)) tNil)) (gName 5)
    (tSeq (tAsg (tCall (sp_lnumbers K) [] E0 (tCons (tVar 1) (tCons (tCB (rLenL K) (tCons (tVar 3) tNil)) tNil))) (gName 6))
    (tCut (tIfS (tTest (tOp rEq (tVar 5) (tC (.int 5)))) (tAsg (tLst tNil) (gName 6)) tNext)
    (tSeq (tAsg (tCB (rListOf K) (tCons (tVar 6) tNil)) (gName 7))
    (tSeq (tAsg (tCall (sp_lpart_due K) [] E0 (tCons (tVar 3) (tCons (tVar 6) tNil))) (gName 8))
    (tIfS (tOr (tTest (tOp rNe (tCB (rReprA K) (tCons (tLamG Pt qt (tt_ltold K cx) (fun E => (tCallS (sp_part K cx) (WE fun cls d _ H => E cls d H) (tCons (tVar 3) (tCons (tVar 7) tNil))))) tNil)) (tCB (rReprA K) (tCons (tVar 8) tNil)))) (tTest (tOp rNe (tCB rReprT (tCons (tVar 7) tNil)) (tCB rReprT (tCons (tVar 6) tNil))))) (tRet (tC (.bl false))) tNext))))))
    (tIfS (tNot (tB (tCall (sp_lbegun_right K Pt2 qt2) [] E0 (tCons (tVar 1) tNil)))) (tRet (tC (.bl false))) tNext))))
    (tRet (tC (.bl true)))))
theorem sx_law {K : PySem.W.Frag} {cx : Str → Addr} {Pt : Addr} {qt : Str} {Pt2 : Addr} {qt2 : Str} : SX ⟨K, E0, cx0⟩ (R_law Pt qt Pt2 qt2) (fz rB) (t_law K cx Pt qt Pt2 qt2) M_law :=
    (s_seq (s_setO a_law_1 (x_lst3 (x_p3 (x_var a_law_0) (x_c fun _ => rfl) (x_c fun _ => rfl))))
    (s_seqC (s_kill (Kl.and (Kl.fr a_law_2) (Kl.and (Kl.fr a_law_3) (Kl.and (Kl.fr a_law_4) (Kl.and (Kl.fr a_law_5) (Kl.and (Kl.fr a_law_6) (Kl.and (Kl.fr a_law_7) (Kl.fr a_law_8))))))) (s_for (vs := [2]) (x_rng1 (x_aone (x_is Cv.id (x_c fun _ => rfl)))) (n_name a_law_2 (by decide))
    (s_kill (Kl.and (Kl.fr a_law_2) (Kl.and (Kl.fr a_law_3) (Kl.and (Kl.fr a_law_4) (Kl.and (Kl.fr a_law_5) (Kl.and (Kl.fr a_law_6) (Kl.and (Kl.fr a_law_7) (Kl.fr a_law_8))))))) (s_seq (s_asgN (vs := [3, 4]) (x_callI a_law_1 ownN_q x_pnil) (n_tup2 (n_name a_law_3 (by decide)) (n_name a_law_4 (by decide))))
    (s_seqC (s_kill (Kl.and (Kl.fr a_law_5) (Kl.and (Kl.fr a_law_6) (Kl.and (Kl.fr a_law_7) (Kl.fr a_law_8)))) (s_for (vs := [5]) (x_rng1 (x_aone (x_is Cv.id (x_c fun _ => rfl)))) (n_name a_law_5 (by decide))
    (s_kill (Kl.and (Kl.fr a_law_5) (Kl.and (Kl.fr a_law_6) (Kl.and (Kl.fr a_law_7) (Kl.fr a_law_8)))) (s_seq (s_set a_law_6 (x_callI a_law_1 ownN_q (x_pone Cv.id (x_tCB v_lenT (x_aone (x_is Cv.ob (x_var a_law_3)))))))
    (s_cutC (s_if (x_test (x_tOp v_eqI Cv.id (x_var a_law_5) (x_is Cv.id (x_c fun _ => rfl)))) (s_set a_law_6 (x_fz (x_lst (x_lnil (r := rTh))))) s_next)
    (s_seq (s_set a_law_7 (x_fz (x_tCBF v_lstOfL (x_aone (x_is Cv.ob (x_var a_law_6))))))
    (s_seq (s_set a_law_8 (x_call (x_acons Cv.id (x_var a_law_3) (x_aone (x_is Cv.id (x_var a_law_6))))))
    (s_ifB (x_or (x_test (x_tOp v_neS Cv.id (x_tCB (v_reprE (daa_Sum (Da.er (da_T (da_T da_I))) daa_S) (by decide)) (x_aone (x_is Cv.id (x_lamW (Wk2.tb wk_law) (fun E => (x_callES (x_acons Cv.id (x_var a0_law_3) (x_aone (x_is Cv.id (x_var a0_law_7)))))))))) (x_is Cv.id (x_tCB (v_reprE (daa_Sum (Da.er (da_T (da_T da_I))) daa_S) (by decide)) (x_aone (x_is Cv.id (x_var a_law_8))))))) (x_test (x_tOp v_neS Cv.id (x_tCB v_reprT (x_aone (x_is Cv.id (x_cast (ci_L ci_id) (x_var a_law_7))))) (x_is Cv.id (x_tCB v_reprT (x_aone (x_is Cv.id (x_cast (ci_L ci_id) (x_var a_law_6))))))))) (s_ret (x_c fun _ => rfl)) s_next))))))))
    (s_if (x_not (x_tB (x_swap (x_callIT (OwAt.sT (OwAt.sT a0_law_1)) ownN_q)))) (s_ret (x_c fun _ => rfl)) s_next))))))
    (s_ret (x_c fun _ => rfl))))
theorem rd_law {K : PySem.W.Frag} {cx : Str → Addr} {Pt : Addr} {qt : Str} {Pt2 : Addr} {qt2 : Str} {H : Hp} {vs : List V} {Q : VK} {E : XK} {N : List Str} (h : sp_law K Pt qt Pt2 qt2 vs H Q E) (hN : N.length = 9 := by rfl) : t_law K cx Pt qt Pt2 qt2 { nx := fun _ H' => Q .non H', rt := Q } (start N vs) H := by
  have h : spDT2 K Pt qt Pt2 qt2 (aOne (ir rScr)) (fz rB) (fun (a : (List Int)) => (M_law (some a, none, none, none, none, none, none, none, none, ())).run none) vs H Q E := h
  refine d_DT2 (dn := none) (ra := (aOne (ir rScr))) (e0 := fun (a : (List Int)) => (some a, none, none, none, none, none, none, none, none, ())) (sx_law) ?_ ?_ h
  · intro G H vs a s hr
    obtain ⟨v0, rfl, h0⟩ := hr
    rw [show start N [v0] = [some v0, none, none, none, none, none, none, none, none] by simp [L2.start, hN]]
    exact (e_fr h0 (e_owN (e_frN (e_frN (e_frN (e_frN (e_frN (e_frN (e_frN e_nil)))))))))
  · intro b h; cases h
local macro_rules | `(tactic| walk_at "mi") => `(tactic| simp only [rp_runD, rp_runDS, rp_runI, rp_runIS, sp_seq, sp_kill, sp_al, sp_for, sp_ret, sp_drop, sp_set, sp_asgN, sp_if, sp_next, sp_mbk, sp_mct, sp_nx, sp_ct, sp_bk, sp_rt, sp_so, sp_ite, sp_setI, rp_ok, rp_bad, rp_of, rp_bind, rp_bindN, rp_run, rp_ite, rp_un, rp_op, rp_var, rp_move, rp_c, rp_opL, rp_pair, rp_pairL, rp_cons, rp_call, rp_callI, rp_bm, rp_bm0, rp_not, rp_and, rp_or, rp_if, rp_chain, rp_mSome, rp_mNone, rp_part, rp_sl, rp_slL, rp_rng1, rp_rng2, rp_enum, rp_lock, rp_dget2, rp_keys, rp_lc, rp_yes, rp_callX, rp_callXI, rp_signs, rp_unw, sp_asg, rp_ptTwo, rp_ptSub, gLen2, Ln.get_zlS, Ln.get_zlN, Ln.put_zlS, Ln.put_zlN, Ln.get_zrS, Ln.get_zrN, Ln.put_zrS, Ln.put_zrN, gSetF, gSsetF, gStep, gCut32, gMin2, gMax2, gRem, gIsi, gSortK, gStr, gLenS, gUpd, gSplit, gIntS, gSortF, op_some, op_ite, Ln.get_z, Ln.put_z, Ln.get_s, Ln.put_s, pN, p2, p3, gAdd, gSubI, gMul, gDiv, gMod, gPow, gShl, gShr, gAnd, gOr, gXor, gLt, gLe, gGt, gGe, gEq, gNe, gNeg, gIsN, gNotN, gLen, gFst, gSnd, g31, g32, gCat, gRep, gCut, gId, gRg, gRev, gIn, gNin, gAll, gAny, gSum, gMax, gAbs, gIntB, gSort, gSet, gSset, gApp, gIns, gExt, gRevM, gSet31, gSet32, dIn, dNin, gDPut, gRepr, szOk, id, if_true, if_false, decide_eq_true_eq, true_and, and_true, Bool.false_eq_true, ite_true, ite_false, eq_self_iff_true, and_self, true_or, or_true, Int.reduceLT, Int.reduceLE, Int.reduceNeg, Int.reduceSub, Int.reduceAdd, Int.reduceMul, Int.reduceEq, Nat.reduceLT, Nat.reduceLeDiff, Nat.reduceAdd, Nat.reduceSub, Nat.reduceMul, List.length_cons, List.length_nil])
local macro_rules | `(tactic| walk_at "mx") => `(tactic| simp only [rx_ok, rx_bad, rx_of, rx_bind, rx_run, rx_ite, sx_nx, sx_ct, sx_bk, sx_rt, sx_so, sx_ite, sx_seq, sx_kill, sx_for, sx_ret, sx_drop, sx_set, sx_asgN, sx_if, sx_next, sx_mbk, sx_mct, rx_un, rx_op, rx_var, rx_move, rx_c, rx_opL, rx_pair, rx_pairL, rx_cons, rx_call, rx_callI, rx_bm, rx_bm0, sx_setI, rx_not, rx_and, rx_or, rx_if, rx_chain, rx_mSome, rx_mNone, rx_part, rx_sl, rx_slL, rx_rng1, rx_rng2, rx_enum, rx_lock, rx_dget2, rx_keys, rx_lc, rx_yes, rx_runD, rx_runDS, sx_raise, sx_asg, rx_unw, rx_callE, gSsetG, rp_lam, rx_out, rp_out, toL, toR, toTh, gDisp1, gRepT, gDictP, pairTh, gIsTB, gNotTB, gIsTh_int, gIsTh_bool, gIsTh_list, gIsTh_tuple, gIsTh_str, gIsTh_dict, List.map_id', rp_runD, rp_runDS, rp_runI, rp_runIS, sp_seq, sp_kill, sp_al, sp_for, sp_ret, sp_drop, sp_set, sp_asgN, sp_if, sp_next, sp_mbk, sp_mct, sp_nx, sp_ct, sp_bk, sp_rt, sp_so, sp_ite, sp_setI, rp_ok, rp_bad, rp_of, rp_bind, rp_bindN, rp_run, rp_ite, rp_un, rp_op, rp_var, rp_move, rp_c, rp_opL, rp_pair, rp_pairL, rp_cons, rp_call, rp_callI, rp_bm, rp_bm0, rp_not, rp_and, rp_or, rp_if, rp_chain, rp_mSome, rp_mNone, rp_part, rp_sl, rp_slL, rp_rng1, rp_rng2, rp_enum, rp_lock, rp_dget2, rp_keys, rp_lc, rp_yes, rp_callX, rp_callXI, rp_signs, rp_unw, sp_asg, rp_ptTwo, rp_ptSub, gLen2, Ln.get_zlS, Ln.get_zlN, Ln.put_zlS, Ln.put_zlN, Ln.get_zrS, Ln.get_zrN, Ln.put_zrS, Ln.put_zrN, gSetF, gSsetF, gStep, gCut32, gMin2, gMax2, gRem, gIsi, gSortK, gStr, gLenS, gUpd, gSplit, gIntS, gSortF, op_some, op_ite, Ln.get_z, Ln.put_z, Ln.get_s, Ln.put_s, pN, p2, p3, gAdd, gSubI, gMul, gDiv, gMod, gPow, gShl, gShr, gAnd, gOr, gXor, gLt, gLe, gGt, gGe, gEq, gNe, gNeg, gIsN, gNotN, gLen, gFst, gSnd, g31, g32, gCat, gRep, gCut, gId, gRg, gRev, gIn, gNin, gAll, gAny, gSum, gMax, gAbs, gIntB, gSort, gSet, gSset, gApp, gIns, gExt, gRevM, gSet31, gSet32, dIn, dNin, gDPut, gRepr, szOk, id, if_true, if_false, decide_eq_true_eq, true_and, and_true, Bool.false_eq_true, ite_true, ite_false, eq_self_iff_true, and_self, true_or, or_true, Int.reduceLT, Int.reduceLE, Int.reduceNeg, Int.reduceSub, Int.reduceAdd, Int.reduceMul, Int.reduceEq, Nat.reduceLT, Nat.reduceLeDiff, Nat.reduceAdd, Nat.reduceSub, Nat.reduceMul, List.length_cons, List.length_nil])
local macro_rules | `(tactic| walk_at "mg") => `(tactic| simp only [gLenSI, gLenST, gDispT, gMulW, rx_ok, rx_bad, rx_of, rx_bind, rx_run, rx_ite, sx_nx, sx_ct, sx_bk, sx_rt, sx_so, sx_ite, sx_seq, sx_kill, sx_for, sx_ret, sx_drop, sx_set, sx_asgN, sx_if, sx_next, sx_mbk, sx_mct, rx_un, rx_op, rx_var, rx_move, rx_c, rx_opL, rx_pair, rx_pairL, rx_cons, rx_call, rx_callI, rx_bm, rx_bm0, sx_setI, rx_not, rx_and, rx_or, rx_if, rx_chain, rx_mSome, rx_mNone, rx_part, rx_sl, rx_slL, rx_rng1, rx_rng2, rx_enum, rx_lock, rx_dget2, rx_keys, rx_lc, rx_yes, rx_runD, rx_runDS, sx_raise, sx_asg, rx_unw, rx_callE, gSsetG, rp_lam, rx_out, rp_out, toL, toR, toTh, gDisp1, gRepT, gDictP, pairTh, gIsTB, gNotTB, gIsTh_int, gIsTh_bool, gIsTh_list, gIsTh_tuple, gIsTh_str, gIsTh_dict, List.map_id', rp_runD, rp_runDS, rp_runI, rp_runIS, sp_seq, sp_kill, sp_al, sp_for, sp_ret, sp_drop, sp_set, sp_asgN, sp_if, sp_next, sp_mbk, sp_mct, sp_nx, sp_ct, sp_bk, sp_rt, sp_so, sp_ite, sp_setI, rp_ok, rp_bad, rp_of, rp_bind, rp_bindN, rp_run, rp_ite, rp_un, rp_op, rp_var, rp_move, rp_c, rp_opL, rp_pair, rp_pairL, rp_cons, rp_call, rp_callI, rp_bm, rp_bm0, rp_not, rp_and, rp_or, rp_if, rp_chain, rp_mSome, rp_mNone, rp_part, rp_sl, rp_slL, rp_rng1, rp_rng2, rp_enum, rp_lock, rp_dget2, rp_keys, rp_lc, rp_yes, rp_callX, rp_callXI, rp_signs, rp_unw, sp_asg, rp_ptTwo, rp_ptSub, gLen2, Ln.get_zlS, Ln.get_zlN, Ln.put_zlS, Ln.put_zlN, Ln.get_zrS, Ln.get_zrN, Ln.put_zrS, Ln.put_zrN, gSetF, gSsetF, gStep, gCut32, gMin2, gMax2, gRem, gIsi, gSortK, gStr, gLenS, gUpd, gSplit, gIntS, gSortF, op_some, op_ite, Ln.get_z, Ln.put_z, Ln.get_s, Ln.put_s, pN, p2, p3, gAdd, gSubI, gMul, gDiv, gMod, gPow, gShl, gShr, gAnd, gOr, gXor, gLt, gLe, gGt, gGe, gEq, gNe, gNeg, gIsN, gNotN, gLen, gFst, gSnd, g31, g32, gCat, gRep, gCut, gId, gRg, gRev, gIn, gNin, gAll, gAny, gSum, gMax, gAbs, gIntB, gSort, gSet, gSset, gApp, gIns, gExt, gRevM, gSet31, gSet32, dIn, dNin, gDPut, gRepr, szOk, id, if_true, if_false, decide_eq_true_eq, true_and, and_true, Bool.false_eq_true, ite_true, ite_false, eq_self_iff_true, and_self, true_or, or_true, Int.reduceLT, Int.reduceLE, Int.reduceNeg, Int.reduceSub, Int.reduceAdd, Int.reduceMul, Int.reduceEq, Nat.reduceLT, Nat.reduceLeDiff, Nat.reduceAdd, Nat.reduceSub, Nat.reduceMul, List.length_cons, List.length_nil])
local macro_rules | `(tactic| walk_at "mn") => `(tactic| simp only [gPl, gPa, gPc, gSetPl, gSetPa, gDivW, gAddS, gMulS, gLenSI, gLenST, gDispT, gMulW, rx_ok, rx_bad, rx_of, rx_bind, rx_run, rx_ite, sx_nx, sx_ct, sx_bk, sx_rt, sx_so, sx_ite, sx_seq, sx_kill, sx_for, sx_ret, sx_drop, sx_set, sx_asgN, sx_if, sx_next, sx_mbk, sx_mct, rx_un, rx_op, rx_var, rx_move, rx_c, rx_opL, rx_pair, rx_pairL, rx_cons, rx_call, rx_callI, rx_bm, rx_bm0, sx_setI, rx_not, rx_and, rx_or, rx_if, rx_chain, rx_mSome, rx_mNone, rx_part, rx_sl, rx_slL, rx_rng1, rx_rng2, rx_enum, rx_lock, rx_dget2, rx_keys, rx_lc, rx_yes, rx_runD, rx_runDS, sx_raise, sx_asg, rx_unw, rx_callE, gSsetG, rp_lam, rx_out, rp_out, toL, toR, toTh, gDisp1, gRepT, gDictP, pairTh, gIsTB, gNotTB, gIsTh_int, gIsTh_bool, gIsTh_list, gIsTh_tuple, gIsTh_str, gIsTh_dict, List.map_id', rp_runD, rp_runDS, rp_runI, rp_runIS, sp_seq, sp_kill, sp_al, sp_for, sp_ret, sp_drop, sp_set, sp_asgN, sp_if, sp_next, sp_mbk, sp_mct, sp_nx, sp_ct, sp_bk, sp_rt, sp_so, sp_ite, sp_setI, rp_ok, rp_bad, rp_of, rp_bind, rp_bindN, rp_run, rp_ite, rp_un, rp_op, rp_var, rp_move, rp_c, rp_opL, rp_pair, rp_pairL, rp_cons, rp_call, rp_callI, rp_bm, rp_bm0, rp_not, rp_and, rp_or, rp_if, rp_chain, rp_mSome, rp_mNone, rp_part, rp_sl, rp_slL, rp_rng1, rp_rng2, rp_enum, rp_lock, rp_dget2, rp_keys, rp_lc, rp_yes, rp_callX, rp_callXI, rp_signs, rp_unw, sp_asg, rp_ptTwo, rp_ptSub, gLen2, Ln.get_zlS, Ln.get_zlN, Ln.put_zlS, Ln.put_zlN, Ln.get_zrS, Ln.get_zrN, Ln.put_zrS, Ln.put_zrN, gSetF, gSsetF, gStep, gCut32, gMin2, gMax2, gRem, gIsi, gSortK, gStr, gLenS, gUpd, gSplit, gIntS, gSortF, op_some, op_ite, Ln.get_z, Ln.put_z, Ln.get_s, Ln.put_s, pN, p2, p3, gAdd, gSubI, gMul, gDiv, gMod, gPow, gShl, gShr, gAnd, gOr, gXor, gLt, gLe, gGt, gGe, gEq, gNe, gNeg, gIsN, gNotN, gLen, gFst, gSnd, g31, g32, gCat, gRep, gCut, gId, gRg, gRev, gIn, gNin, gAll, gAny, gSum, gMax, gAbs, gIntB, gSort, gSet, gSset, gApp, gIns, gExt, gRevM, gSet31, gSet32, dIn, dNin, gDPut, gRepr, szOk, id, if_true, if_false, decide_eq_true_eq, true_and, and_true, Bool.false_eq_true, ite_true, ite_false, eq_self_iff_true, and_self, true_or, or_true, Int.reduceLT, Int.reduceLE, Int.reduceNeg, Int.reduceSub, Int.reduceAdd, Int.reduceMul, Int.reduceEq, Nat.reduceLT, Nat.reduceLeDiff, Nat.reduceAdd, Nat.reduceSub, Nat.reduceMul, List.length_cons, List.length_nil])
local macro_rules | `(tactic| walk_at "md") => `(tactic| simp only [rp_view, rp_appD, rp_insD, rp_sdApp, sp_sp1, sp_sp2, gSp, gSortKI, gPl, gPa, gPc, gSetPl, gSetPa, gAddS, gMulS, gLenSI, gLenST, gDispT, gMulW, rx_ok, rx_bad, rx_of, rx_bind, rx_run, rx_ite, sx_nx, sx_ct, sx_bk, sx_rt, sx_so, sx_ite, sx_seq, sx_kill, sx_for, sx_ret, sx_drop, sx_set, sx_asgN, sx_if, sx_next, sx_mbk, sx_mct, rx_un, rx_op, rx_var, rx_move, rx_c, rx_opL, rx_pair, rx_pairL, rx_cons, rx_call, rx_callI, rx_bm, rx_bm0, sx_setI, rx_not, rx_and, rx_or, rx_if, rx_chain, rx_mSome, rx_mNone, rx_part, rx_sl, rx_slL, rx_rng1, rx_rng2, rx_enum, rx_lock, rx_dget2, rx_keys, rx_lc, rx_yes, rx_runD, rx_runDS, sx_raise, sx_asg, rx_unw, rx_callE, gSsetG, rp_lam, rx_out, rp_out, toL, toR, toTh, gDisp1, gRepT, gDictP, pairTh, gIsTB, gNotTB, gIsTh_int, gIsTh_bool, gIsTh_list, gIsTh_tuple, gIsTh_str, gIsTh_dict, List.map_id', rp_runD, rp_runDS, rp_runI, rp_runIS, sp_seq, sp_kill, sp_al, sp_for, sp_ret, sp_drop, sp_set, sp_asgN, sp_if, sp_next, sp_mbk, sp_mct, sp_nx, sp_ct, sp_bk, sp_rt, sp_so, sp_ite, sp_setI, rp_ok, rp_bad, rp_of, rp_bind, rp_bindN, rp_run, rp_ite, rp_un, rp_op, rp_var, rp_move, rp_c, rp_opL, rp_pair, rp_pairL, rp_cons, rp_call, rp_callI, rp_bm, rp_bm0, rp_not, rp_and, rp_or, rp_if, rp_chain, rp_mSome, rp_mNone, rp_part, rp_sl, rp_slL, rp_rng1, rp_rng2, rp_enum, rp_lock, rp_dget2, rp_keys, rp_lc, rp_yes, rp_callX, rp_callXI, rp_signs, rp_unw, sp_asg, rp_ptTwo, rp_ptSub, gLen2, Ln.get_zlS, Ln.get_zlN, Ln.put_zlS, Ln.put_zlN, Ln.get_zrS, Ln.get_zrN, Ln.put_zrS, Ln.put_zrN, gSetF, gSsetF, gStep, gCut32, gMin2, gMax2, gRem, gIsi, gSortK, gStr, gLenS, gUpd, gSplit, gIntS, gSortF, op_some, op_ite, Ln.get_z, Ln.put_z, Ln.get_s, Ln.put_s, pN, p2, p3, gAdd, gSubI, gMul, gDiv, gMod, gPow, gShl, gShr, gAnd, gOr, gXor, gLt, gLe, gGt, gGe, gEq, gNe, gNeg, gIsN, gNotN, gLen, gFst, gSnd, g31, g32, gCat, gRep, gCut, gId, gRg, gRev, gIn, gNin, gAll, gAny, gSum, gMax, gAbs, gIntB, gSort, gSet, gSset, gApp, gIns, gExt, gRevM, gSet31, gSet32, dIn, dNin, gDPut, gRepr, szOk, id, if_true, if_false, decide_eq_true_eq, true_and, and_true, Bool.false_eq_true, ite_true, ite_false, eq_self_iff_true, and_self, true_or, or_true, Int.reduceLT, Int.reduceLE, Int.reduceNeg, Int.reduceSub, Int.reduceAdd, Int.reduceMul, Int.reduceEq, Nat.reduceLT, Nat.reduceLeDiff, Nat.reduceAdd, Nat.reduceSub, Nat.reduceMul, List.length_cons, List.length_nil])
local macro_rules | `(tactic| walk_at "me") => `(tactic| simp only [rp_at0App, rp_rngD, sp_lockS, gBits, gMinT, gSortTp, gDictPT, gKeysT, gVNin, rp_view, rp_appD, rp_insD, rp_sdApp, sp_sp1, sp_sp2, gSp, gSortKI, gPl, gPa, gPc, gSetPl, gSetPa, gAddS, gMulS, gLenSI, gLenST, gDispT, gMulW, rx_ok, rx_bad, rx_of, rx_bind, rx_run, rx_ite, sx_nx, sx_ct, sx_bk, sx_rt, sx_so, sx_ite, sx_seq, sx_kill, sx_for, sx_ret, sx_drop, sx_set, sx_asgN, sx_if, sx_next, sx_mbk, sx_mct, rx_un, rx_op, rx_var, rx_move, rx_c, rx_opL, rx_pair, rx_pairL, rx_cons, rx_call, rx_callI, rx_bm, rx_bm0, sx_setI, rx_not, rx_and, rx_or, rx_if, rx_chain, rx_mSome, rx_mNone, rx_part, rx_sl, rx_slL, rx_rng1, rx_rng2, rx_enum, rx_lock, rx_dget2, rx_keys, rx_lc, rx_yes, rx_runD, rx_runDS, sx_raise, sx_asg, rx_unw, rx_callE, gSsetG, rp_lam, rx_out, rp_out, toL, toR, toTh, gDisp1, gRepT, gDictP, pairTh, gIsTB, gNotTB, gIsTh_int, gIsTh_bool, gIsTh_list, gIsTh_tuple, gIsTh_str, gIsTh_dict, List.map_id', rp_runD, rp_runDS, rp_runI, rp_runIS, sp_seq, sp_kill, sp_al, sp_for, sp_ret, sp_drop, sp_set, sp_asgN, sp_if, sp_next, sp_mbk, sp_mct, sp_nx, sp_ct, sp_bk, sp_rt, sp_so, sp_ite, sp_setI, rp_ok, rp_bad, rp_of, rp_bind, rp_bindN, rp_run, rp_ite, rp_un, rp_op, rp_var, rp_move, rp_c, rp_opL, rp_pair, rp_pairL, rp_cons, rp_call, rp_callI, rp_bm, rp_bm0, rp_not, rp_and, rp_or, rp_if, rp_chain, rp_mSome, rp_mNone, rp_part, rp_sl, rp_slL, rp_rng1, rp_rng2, rp_enum, rp_lock, rp_dget2, rp_keys, rp_lc, rp_yes, rp_callX, rp_callXI, rp_signs, rp_unw, sp_asg, rp_ptTwo, rp_ptSub, gLen2, Ln.get_zlS, Ln.get_zlN, Ln.put_zlS, Ln.put_zlN, Ln.get_zrS, Ln.get_zrN, Ln.put_zrS, Ln.put_zrN, gSetF, gSsetF, gStep, gCut32, gMin2, gMax2, gRem, gIsi, gSortK, gStr, gLenS, gUpd, gSplit, gIntS, gSortF, op_some, op_ite, Ln.get_z, Ln.put_z, Ln.get_s, Ln.put_s, pN, p2, p3, gAdd, gSubI, gMul, gDiv, gMod, gPow, gShl, gShr, gAnd, gOr, gXor, gLt, gLe, gGt, gGe, gEq, gNe, gNeg, gIsN, gNotN, gLen, gFst, gSnd, g31, g32, gCat, gRep, gCut, gId, gRg, gRev, gIn, gNin, gAll, gAny, gSum, gMax, gAbs, gIntB, gSort, gSet, gSset, gApp, gIns, gExt, gRevM, gSet31, gSet32, dIn, dNin, gDPut, gRepr, szOk, id, if_true, if_false, decide_eq_true_eq, true_and, and_true, Bool.false_eq_true, ite_true, ite_false, eq_self_iff_true, and_self, true_or, or_true, Int.reduceLT, Int.reduceLE, Int.reduceNeg, Int.reduceSub, Int.reduceAdd, Int.reduceMul, Int.reduceEq, Nat.reduceLT, Nat.reduceLeDiff, Nat.reduceAdd, Nat.reduceSub, Nat.reduceMul, List.length_cons, List.length_nil])
local macro_rules | `(tactic| walk_at "mf") => `(tactic| simp only [sp_popD, sp_subPop, sp_put2, rp_dictDD, op_popK, op_sortFK, rp_at0App, rp_rngD, sp_lockS, gBits, gMinT, gSortTp, gDictPT, gKeysT, gVNin, rp_view, rp_appD, rp_insD, rp_sdApp, sp_sp1, sp_sp2, gSp, gSortKI, gPl, gPa, gPc, gSetPl, gSetPa, gAddS, gMulS, gLenSI, gLenST, gDispT, gMulW, rx_ok, rx_bad, rx_of, rx_bind, rx_run, rx_ite, sx_nx, sx_ct, sx_bk, sx_rt, sx_so, sx_ite, sx_seq, sx_kill, sx_for, sx_ret, sx_drop, sx_set, sx_asgN, sx_if, sx_next, sx_mbk, sx_mct, rx_un, rx_op, rx_var, rx_move, rx_c, rx_opL, rx_pair, rx_pairL, rx_cons, rx_call, rx_callI, rx_bm, rx_bm0, sx_setI, rx_not, rx_and, rx_or, rx_if, rx_chain, rx_mSome, rx_mNone, rx_part, rx_sl, rx_slL, rx_rng1, rx_rng2, rx_enum, rx_lock, rx_dget2, rx_keys, rx_lc, rx_yes, rx_runD, rx_runDS, sx_raise, sx_asg, rx_unw, rx_callE, gSsetG, rp_lam, rx_out, rp_out, toL, toR, toTh, gDisp1, gRepT, gDictP, pairTh, gIsTB, gNotTB, gIsTh_int, gIsTh_bool, gIsTh_list, gIsTh_tuple, gIsTh_str, gIsTh_dict, List.map_id', rp_runD, rp_runDS, rp_runI, rp_runIS, sp_seq, sp_kill, sp_al, sp_for, sp_ret, sp_drop, sp_set, sp_asgN, sp_if, sp_next, sp_mbk, sp_mct, sp_nx, sp_ct, sp_bk, sp_rt, sp_so, sp_ite, sp_setI, rp_ok, rp_bad, rp_of, rp_bind, rp_bindN, rp_run, rp_ite, rp_un, rp_op, rp_var, rp_move, rp_c, rp_opL, rp_pair, rp_pairL, rp_cons, rp_call, rp_callI, rp_bm, rp_bm0, rp_not, rp_and, rp_or, rp_if, rp_chain, rp_mSome, rp_mNone, rp_part, rp_sl, rp_slL, rp_rng1, rp_rng2, rp_enum, rp_lock, rp_dget2, rp_keys, rp_lc, rp_yes, rp_callX, rp_callXI, rp_signs, rp_unw, sp_asg, rp_ptTwo, rp_ptSub, gLen2, Ln.get_zlS, Ln.get_zlN, Ln.put_zlS, Ln.put_zlN, Ln.get_zrS, Ln.get_zrN, Ln.put_zrS, Ln.put_zrN, gSetF, gSsetF, gStep, gCut32, gMin2, gMax2, gRem, gIsi, gSortK, gStr, gLenS, gUpd, gSplit, gIntS, gSortF, op_some, op_ite, Ln.get_z, Ln.put_z, Ln.get_s, Ln.put_s, pN, p2, p3, gAdd, gSubI, gMul, gDiv, gMod, gPow, gShl, gShr, gAnd, gOr, gXor, gLt, gLe, gGt, gGe, gEq, gNe, gNeg, gIsN, gNotN, gLen, gFst, gSnd, g31, g32, gCat, gRep, gCut, gId, gRg, gRev, gIn, gNin, gAll, gAny, gSum, gMax, gAbs, gIntB, gSort, gSet, gSset, gApp, gIns, gExt, gRevM, gSet31, gSet32, dIn, dNin, gDPut, gRepr, szOk, id, if_true, if_false, decide_eq_true_eq, true_and, and_true, Bool.false_eq_true, ite_true, ite_false, eq_self_iff_true, and_self, true_or, or_true, Int.reduceLT, Int.reduceLE, Int.reduceNeg, Int.reduceSub, Int.reduceAdd, Int.reduceMul, Int.reduceEq, Nat.reduceLT, Nat.reduceLeDiff, Nat.reduceAdd, Nat.reduceSub, Nat.reduceMul, List.length_cons, List.length_nil])
local macro_rules | `(tactic| walk_at "mk") => `(tactic| simp only [rp_lockV, rp_fstApp, rp_sndClr, gIt2, gItS, sp_popD, sp_subPop, sp_put2, rp_dictDD, op_popK, op_sortFK, rp_at0App, rp_rngD, sp_lockS, gBits, gMinT, gSortTp, gDictPT, gKeysT, gVNin, rp_view, rp_appD, rp_insD, rp_sdApp, sp_sp1, sp_sp2, gSp, gSortKI, gPl, gPa, gPc, gSetPl, gSetPa, gAddS, gMulS, gLenSI, gLenST, gDispT, gMulW, rx_ok, rx_bad, rx_of, rx_bind, rx_run, rx_ite, sx_nx, sx_ct, sx_bk, sx_rt, sx_so, sx_ite, sx_seq, sx_kill, sx_for, sx_ret, sx_drop, sx_set, sx_asgN, sx_if, sx_next, sx_mbk, sx_mct, rx_un, rx_op, rx_var, rx_move, rx_c, rx_opL, rx_pair, rx_pairL, rx_cons, rx_call, rx_callI, rx_bm, rx_bm0, sx_setI, rx_not, rx_and, rx_or, rx_if, rx_chain, rx_mSome, rx_mNone, rx_part, rx_sl, rx_slL, rx_rng1, rx_rng2, rx_enum, rx_lock, rx_dget2, rx_keys, rx_lc, rx_yes, rx_runD, rx_runDS, sx_raise, sx_asg, rx_unw, rx_callE, gSsetG, rp_lam, rx_out, rp_out, toL, toR, toTh, gDisp1, gRepT, gDictP, pairTh, gIsTB, gNotTB, gIsTh_int, gIsTh_bool, gIsTh_list, gIsTh_tuple, gIsTh_str, gIsTh_dict, List.map_id', rp_runD, rp_runDS, rp_runI, rp_runIS, sp_seq, sp_kill, sp_al, sp_for, sp_ret, sp_drop, sp_set, sp_asgN, sp_if, sp_next, sp_mbk, sp_mct, sp_nx, sp_ct, sp_bk, sp_rt, sp_so, sp_ite, sp_setI, rp_ok, rp_bad, rp_of, rp_bind, rp_bindN, rp_run, rp_ite, rp_un, rp_op, rp_var, rp_move, rp_c, rp_opL, rp_pair, rp_pairL, rp_cons, rp_call, rp_callI, rp_bm, rp_bm0, rp_not, rp_and, rp_or, rp_if, rp_chain, rp_mSome, rp_mNone, rp_part, rp_sl, rp_slL, rp_rng1, rp_rng2, rp_enum, rp_lock, rp_dget2, rp_keys, rp_lc, rp_yes, rp_callX, rp_callXI, rp_signs, rp_unw, sp_asg, rp_ptTwo, rp_ptSub, gLen2, Ln.get_zlS, Ln.get_zlN, Ln.put_zlS, Ln.put_zlN, Ln.get_zrS, Ln.get_zrN, Ln.put_zrS, Ln.put_zrN, gSetF, gSsetF, gStep, gCut32, gMin2, gMax2, gRem, gIsi, gSortK, gStr, gLenS, gUpd, gSplit, gIntS, gSortF, op_some, op_ite, Ln.get_z, Ln.put_z, Ln.get_s, Ln.put_s, pN, p2, p3, gAdd, gSubI, gMul, gDiv, gMod, gPow, gShl, gShr, gAnd, gOr, gXor, gLt, gLe, gGt, gGe, gEq, gNe, gNeg, gIsN, gNotN, gLen, gFst, gSnd, g31, g32, gCat, gRep, gCut, gId, gRg, gRev, gIn, gNin, gAll, gAny, gSum, gMax, gAbs, gIntB, gSort, gSet, gSset, gApp, gIns, gExt, gRevM, gSet31, gSet32, dIn, dNin, gDPut, gRepr, szOk, id, if_true, if_false, decide_eq_true_eq, true_and, and_true, Bool.false_eq_true, ite_true, ite_false, eq_self_iff_true, and_self, true_or, or_true, Int.reduceLT, Int.reduceLE, Int.reduceNeg, Int.reduceSub, Int.reduceAdd, Int.reduceMul, Int.reduceEq, Nat.reduceLT, Nat.reduceLeDiff, Nat.reduceAdd, Nat.reduceSub, Nat.reduceMul, List.length_cons, List.length_nil])
local macro_rules | `(tactic| walk_at "mp") => `(tactic| simp only [gJoin, gCutS, gSetLS, gSplit, rp_lockV, rp_fstApp, rp_sndClr, gIt2, gItS, sp_popD, sp_subPop, sp_put2, rp_dictDD, op_popK, op_sortFK, rp_at0App, rp_rngD, sp_lockS, gBits, gMinT, gSortTp, gDictPT, gKeysT, gVNin, rp_view, rp_appD, rp_insD, rp_sdApp, sp_sp1, sp_sp2, gSp, gSortKI, gPl, gPa, gPc, gSetPl, gSetPa, gAddS, gMulS, gLenSI, gLenST, gDispT, gMulW, rx_ok, rx_bad, rx_of, rx_bind, rx_run, rx_ite, sx_nx, sx_ct, sx_bk, sx_rt, sx_so, sx_ite, sx_seq, sx_kill, sx_for, sx_ret, sx_drop, sx_set, sx_asgN, sx_if, sx_next, sx_mbk, sx_mct, rx_un, rx_op, rx_var, rx_move, rx_c, rx_opL, rx_pair, rx_pairL, rx_cons, rx_call, rx_callI, rx_bm, rx_bm0, sx_setI, rx_not, rx_and, rx_or, rx_if, rx_chain, rx_mSome, rx_mNone, rx_part, rx_sl, rx_slL, rx_rng1, rx_rng2, rx_enum, rx_lock, rx_dget2, rx_keys, rx_lc, rx_yes, rx_runD, rx_runDS, sx_raise, sx_asg, rx_unw, rx_callE, gSsetG, rp_lam, rx_out, rp_out, toL, toR, toTh, gDisp1, gRepT, gDictP, pairTh, gIsTB, gNotTB, gIsTh_int, gIsTh_bool, gIsTh_list, gIsTh_tuple, gIsTh_str, gIsTh_dict, List.map_id', rp_runD, rp_runDS, rp_runI, rp_runIS, sp_seq, sp_kill, sp_al, sp_for, sp_ret, sp_drop, sp_set, sp_asgN, sp_if, sp_next, sp_mbk, sp_mct, sp_nx, sp_ct, sp_bk, sp_rt, sp_so, sp_ite, sp_setI, rp_ok, rp_bad, rp_of, rp_bind, rp_bindN, rp_run, rp_ite, rp_un, rp_op, rp_var, rp_move, rp_c, rp_opL, rp_pair, rp_pairL, rp_pairM, rp_cons, rp_call, rp_callI, rp_bm, rp_bm0, rp_not, rp_and, rp_or, rp_if, rp_chain, rp_mSome, rp_mNone, rp_part, rp_sl, rp_slL, rp_rng1, rp_rng2, rp_enum, rp_lock, rp_dget2, rp_keys, rp_lc, rp_yes, rp_callX, rp_callXI, rp_signs, rp_unw, sp_asg, rp_ptTwo, rp_ptSub, gLen2, Ln.get_zlS, Ln.get_zlN, Ln.put_zlS, Ln.put_zlN, Ln.get_zrS, Ln.get_zrN, Ln.put_zrS, Ln.put_zrN, gSetF, gSsetF, gStep, gCut32, gMin2, gMax2, gRem, gIsi, gSortK, gStr, gLenS, gUpd, gSplit, gIntS, gSortF, op_some, op_ite, Ln.get_z, Ln.put_z, Ln.get_s, Ln.put_s, pN, p2, p3, gAdd, gSubI, gMul, gDiv, gMod, gPow, gShl, gShr, gAnd, gOr, gXor, gLt, gLe, gGt, gGe, gEq, gNe, gNeg, gIsN, gNotN, gLen, gFst, gSnd, g31, g32, gCat, gRep, gCut, gId, gRg, gRev, gIn, gNin, gAll, gAny, gSum, gMax, gAbs, gIntB, gSort, gSet, gSset, gApp, gIns, gExt, gRevM, gSet31, gSet32, dIn, dNin, gDPut, gRepr, szOk, id, if_true, if_false, decide_eq_true_eq, true_and, and_true, Bool.false_eq_true, ite_true, ite_false, eq_self_iff_true, and_self, true_or, or_true, Int.reduceLT, Int.reduceLE, Int.reduceNeg, Int.reduceSub, Int.reduceAdd, Int.reduceMul, Int.reduceEq, Nat.reduceLT, Nat.reduceLeDiff, Nat.reduceAdd, Nat.reduceSub, Nat.reduceMul, List.length_cons, List.length_nil])
local macro_rules | `(tactic| walk_at "mq") => `(tactic| simp only [gMulS0, rp_dr, rp_bmF, sp_setF, rp_methT, gJoin, gCutS, gSetLS, gSplit, rp_lockV, rp_fstApp, rp_sndClr, gIt2, gItS, sp_popD, sp_subPop, sp_put2, rp_dictDD, op_popK, op_sortFK, rp_at0App, rp_rngD, sp_lockS, gBits, gMinT, gSortTp, gDictPT, gKeysT, gVNin, rp_view, rp_appD, rp_insD, rp_sdApp, sp_sp1, sp_sp2, gSp, gSortKI, gPl, gPa, gPc, gSetPl, gSetPa, gAddS, gMulS, gLenSI, gLenST, gDispT, gMulW, rx_ok, rx_bad, rx_of, rx_bind, rx_run, rx_ite, sx_nx, sx_ct, sx_bk, sx_rt, sx_so, sx_ite, sx_seq, sx_kill, sx_for, sx_ret, sx_drop, sx_set, sx_asgN, sx_if, sx_next, sx_mbk, sx_mct, rx_un, rx_op, rx_var, rx_move, rx_c, rx_opL, rx_pair, rx_pairL, rx_cons, rx_call, rx_callI, rx_bm, rx_bm0, sx_setI, rx_not, rx_and, rx_or, rx_if, rx_chain, rx_mSome, rx_mNone, rx_part, rx_sl, rx_slL, rx_rng1, rx_rng2, rx_enum, rx_lock, rx_dget2, rx_keys, rx_lc, rx_yes, rx_runD, rx_runDS, sx_raise, sx_asg, rx_unw, rx_callE, gSsetG, rp_lam, rx_out, rp_out, toL, toR, toTh, gDisp1, gRepT, gDictP, pairTh, gIsTB, gNotTB, gIsTh_int, gIsTh_bool, gIsTh_list, gIsTh_tuple, gIsTh_str, gIsTh_dict, List.map_id', rp_runD, rp_runDS, rp_runI, rp_runIS, sp_seq, sp_kill, sp_al, sp_for, sp_ret, sp_drop, sp_set, sp_asgN, sp_if, sp_next, sp_mbk, sp_mct, sp_nx, sp_ct, sp_bk, sp_rt, sp_so, sp_ite, sp_setI, rp_ok, rp_bad, rp_of, rp_bind, rp_bindN, rp_run, rp_ite, rp_un, rp_op, rp_var, rp_move, rp_c, rp_opL, rp_pair, rp_pairL, rp_pairM, rp_cons, rp_call, rp_callI, rp_bm, rp_bm0, rp_not, rp_and, rp_or, rp_if, rp_chain, rp_mSome, rp_mNone, rp_part, rp_sl, rp_slL, rp_rng1, rp_rng2, rp_enum, rp_lock, rp_dget2, rp_keys, rp_lc, rp_yes, rp_callX, rp_callXI, rp_signs, rp_unw, sp_asg, rp_ptTwo, rp_ptSub, gLen2, Ln.get_zlS, Ln.get_zlN, Ln.put_zlS, Ln.put_zlN, Ln.get_zrS, Ln.get_zrN, Ln.put_zrS, Ln.put_zrN, gSetF, gSsetF, gStep, gCut32, gMin2, gMax2, gRem, gIsi, gSortK, gStr, gLenS, gUpd, gSplit, gIntS, gSortF, op_some, op_ite, Ln.get_z, Ln.put_z, Ln.get_s, Ln.put_s, pN, p2, p3, gAdd, gSubI, gMul, gDiv, gMod, gPow, gShl, gShr, gAnd, gOr, gXor, gLt, gLe, gGt, gGe, gEq, gNe, gNeg, gIsN, gNotN, gLen, gFst, gSnd, g31, g32, gCat, gRep, gCut, gId, gRg, gRev, gIn, gNin, gAll, gAny, gSum, gMax, gAbs, gIntB, gSort, gSet, gSset, gApp, gIns, gExt, gRevM, gSet31, gSet32, dIn, dNin, gDPut, gRepr, szOk, id, if_true, if_false, decide_eq_true_eq, true_and, and_true, Bool.false_eq_true, ite_true, ite_false, eq_self_iff_true, and_self, true_or, or_true, Int.reduceLT, Int.reduceLE, Int.reduceNeg, Int.reduceSub, Int.reduceAdd, Int.reduceMul, Int.reduceEq, Nat.reduceLT, Nat.reduceLeDiff, Nat.reduceAdd, Nat.reduceSub, Nat.reduceMul, List.length_cons, List.length_nil])
local macro_rules | `(tactic| walk_at "mr") => `(tactic| simp only [op_lnP, ln_putS, ln_putN, op_lnU, ln_putU, gMulS0, rp_dr, rp_bmF, sp_setF, rp_methT, gJoin, gCutS, gSetLS, gSplit, rp_lockV, rp_fstApp, rp_sndClr, gIt2, gItS, sp_popD, sp_subPop, sp_put2, rp_dictDD, op_popK, op_sortFK, rp_at0App, rp_rngD, sp_lockS, gBits, gMinT, gSortTp, gDictPT, gKeysT, gVNin, rp_view, rp_appD, rp_insD, rp_sdApp, sp_sp1, sp_sp2, gSp, gSortKI, gPl, gPa, gPc, gSetPl, gSetPa, gAddS, gMulS, gLenSI, gLenST, gDispT, gMulW, rx_ok, rx_bad, rx_of, rx_bind, rx_run, rx_ite, sx_nx, sx_ct, sx_bk, sx_rt, sx_so, sx_ite, sx_seq, sx_kill, sx_for, sx_ret, sx_drop, sx_set, sx_asgN, sx_if, sx_next, sx_mbk, sx_mct, rx_un, rx_op, rx_var, rx_move, rx_c, rx_opL, rx_pair, rx_pairL, rx_cons, rx_call, rx_callI, rx_bm, rx_bm0, sx_setI, rx_not, rx_and, rx_or, rx_if, rx_chain, rx_mSome, rx_mNone, rx_part, rx_sl, rx_slL, rx_rng1, rx_rng2, rx_enum, rx_lock, rx_dget2, rx_keys, rx_lc, rx_yes, rx_runD, rx_runDS, sx_raise, sx_asg, rx_unw, rx_callE, gSsetG, rp_lam, rx_out, rp_out, toL, toR, toTh, gDisp1, gRepT, gDictP, pairTh, gIsTB, gNotTB, gIsTh_int, gIsTh_bool, gIsTh_list, gIsTh_tuple, gIsTh_str, gIsTh_dict, List.map_id', rp_runD, rp_runDS, rp_runI, rp_runIS, sp_seq, sp_kill, sp_al, sp_for, sp_ret, sp_drop, sp_set, sp_asgN, sp_if, sp_next, sp_mbk, sp_mct, sp_nx, sp_ct, sp_bk, sp_rt, sp_so, sp_ite, sp_setI, rp_ok, rp_bad, rp_of, rp_bind, rp_bindN, rp_run, rp_ite, rp_un, rp_op, rp_var, rp_move, rp_c, rp_opL, rp_pair, rp_pairL, rp_pairM, rp_cons, rp_call, rp_callI, rp_bm, rp_bm0, rp_not, rp_and, rp_or, rp_if, rp_chain, rp_mSome, rp_mNone, rp_part, rp_sl, rp_slL, rp_rng1, rp_rng2, rp_enum, rp_lock, rp_dget2, rp_keys, rp_lc, rp_yes, rp_callX, rp_callXI, rp_signs, rp_unw, sp_asg, rp_ptTwo, rp_ptSub, gLen2, Ln.get_zlS, Ln.get_zlN, Ln.put_zlS, Ln.put_zlN, Ln.get_zrS, Ln.get_zrN, Ln.put_zrS, Ln.put_zrN, gSetF, gSsetF, gStep, gCut32, gMin2, gMax2, gRem, gIsi, gSortK, gStr, gLenS, gUpd, gSplit, gIntS, gSortF, op_some, op_ite, Ln.get_z, Ln.put_z, Ln.get_s, Ln.put_s, pN, p2, p3, gAdd, gSubI, gMul, gDiv, gMod, gPow, gShl, gShr, gAnd, gOr, gXor, gLt, gLe, gGt, gGe, gEq, gNe, gNeg, gIsN, gNotN, gLen, gFst, gSnd, g31, g32, gCat, gRep, gCut, gId, gRg, gRev, gIn, gNin, gAll, gAny, gSum, gMax, gAbs, gIntB, gSort, gSet, gSset, gApp, gIns, gExt, gRevM, gSet31, gSet32, dIn, dNin, gDPut, gRepr, szOk, id, if_true, if_false, decide_eq_true_eq, true_and, and_true, Bool.false_eq_true, ite_true, ite_false, eq_self_iff_true, and_self, true_or, or_true, Int.reduceLT, Int.reduceLE, Int.reduceNeg, Int.reduceSub, Int.reduceAdd, Int.reduceMul, Int.reduceEq, Nat.reduceLT, Nat.reduceLeDiff, Nat.reduceAdd, Nat.reduceSub, Nat.reduceMul, List.length_cons, List.length_nil])
local macro_rules | `(tactic| walk_at "mw") => `(tactic| simp only [rp_callMT, foldWK, asT3, op_lnP, ln_putS, ln_putN, op_lnU, ln_putU, gMulS0, rp_dr, rp_bmF, sp_setF, rp_methT, gJoin, gCutS, gSetLS, gSplit, rp_lockV, rp_fstApp, rp_sndClr, gIt2, gItS, sp_popD, sp_subPop, sp_put2, rp_dictDD, op_popK, op_sortFK, rp_at0App, rp_rngD, sp_lockS, gBits, gMinT, gSortTp, gDictPT, gKeysT, gVNin, rp_view, rp_appD, rp_insD, rp_sdApp, sp_sp1, sp_sp2, gSp, gSortKI, gPl, gPa, gPc, gSetPl, gSetPa, gAddS, gMulS, gLenSI, gLenST, gDispT, gMulW, rx_ok, rx_bad, rx_of, rx_bind, rx_run, rx_ite, sx_nx, sx_ct, sx_bk, sx_rt, sx_so, sx_ite, sx_seq, sx_kill, sx_for, sx_ret, sx_drop, sx_set, sx_asgN, sx_if, sx_next, sx_mbk, sx_mct, rx_un, rx_op, rx_var, rx_move, rx_c, rx_opL, rx_pair, rx_pairL, rx_cons, rx_call, rx_callI, rx_bm, rx_bm0, sx_setI, rx_not, rx_and, rx_or, rx_if, rx_chain, rx_mSome, rx_mNone, rx_part, rx_sl, rx_slL, rx_rng1, rx_rng2, rx_enum, rx_lock, rx_dget2, rx_keys, rx_lc, rx_yes, rx_runD, rx_runDS, sx_raise, sx_asg, rx_unw, rx_callE, gSsetG, rp_lam, rx_out, rp_out, toL, toR, toTh, gDisp1, gRepT, gDictP, pairTh, gIsTB, gNotTB, gIsTh_int, gIsTh_bool, gIsTh_list, gIsTh_tuple, gIsTh_str, gIsTh_dict, List.map_id', rp_runD, rp_runDS, rp_runI, rp_runIS, sp_seq, sp_kill, sp_al, sp_for, sp_ret, sp_drop, sp_set, sp_asgN, sp_if, sp_next, sp_mbk, sp_mct, sp_nx, sp_ct, sp_bk, sp_rt, sp_so, sp_ite, sp_setI, rp_ok, rp_bad, rp_of, rp_bind, rp_bindN, rp_run, rp_ite, rp_un, rp_op, rp_var, rp_move, rp_c, rp_opL, rp_pair, rp_pairL, rp_pairM, rp_cons, rp_call, rp_callI, rp_bm, rp_bm0, rp_not, rp_and, rp_or, rp_if, rp_chain, rp_mSome, rp_mNone, rp_part, rp_sl, rp_slL, rp_rng1, rp_rng2, rp_enum, rp_lock, rp_dget2, rp_keys, rp_lc, rp_yes, rp_callX, rp_callXI, rp_signs, rp_unw, sp_asg, rp_ptTwo, rp_ptSub, gLen2, Ln.get_zlS, Ln.get_zlN, Ln.put_zlS, Ln.put_zlN, Ln.get_zrS, Ln.get_zrN, Ln.put_zrS, Ln.put_zrN, gSetF, gSsetF, gStep, gCut32, gMin2, gMax2, gRem, gIsi, gSortK, gStr, gLenS, gUpd, gSplit, gIntS, gSortF, op_some, op_ite, Ln.get_z, Ln.put_z, Ln.get_s, Ln.put_s, pN, p2, p3, gAdd, gSubI, gMul, gDiv, gMod, gPow, gShl, gShr, gAnd, gOr, gXor, gLt, gLe, gGt, gGe, gEq, gNe, gNeg, gIsN, gNotN, gLen, gFst, gSnd, g31, g32, gCat, gRep, gCut, gId, gRg, gRev, gIn, gNin, gAll, gAny, gSum, gMax, gAbs, gIntB, gSort, gSet, gSset, gApp, gIns, gExt, gRevM, gSet31, gSet32, dIn, dNin, gDPut, gRepr, szOk, id, if_true, if_false, decide_eq_true_eq, true_and, and_true, Bool.false_eq_true, ite_true, ite_false, eq_self_iff_true, and_self, true_or, or_true, Int.reduceLT, Int.reduceLE, Int.reduceNeg, Int.reduceSub, Int.reduceAdd, Int.reduceMul, Int.reduceEq, Nat.reduceLT, Nat.reduceLeDiff, Nat.reduceAdd, Nat.reduceSub, Nat.reduceMul, List.length_cons, List.length_nil])
local macro_rules | `(tactic| walk_at "ms") => `(tactic| simp only [rp_extD, sp_each, op_lnP, ln_putS, ln_putN, op_lnU, ln_putU, gMulS0, rp_dr, rp_bmF, sp_setF, rp_methT, gJoin, gCutS, gSetLS, gSplit, rp_lockV, rp_fstApp, rp_sndClr, gIt2, gItS, sp_popD, sp_subPop, sp_put2, rp_dictDD, op_popK, op_sortFK, rp_at0App, rp_rngD, sp_lockS, gBits, gMinT, gSortTp, gDictPT, gKeysT, gVNin, rp_view, rp_appD, rp_insD, rp_sdApp, sp_sp1, sp_sp2, gSp, gSortKI, gPl, gPa, gPc, gSetPl, gSetPa, gAddS, gMulS, gLenSI, gLenST, gDispT, gMulW, rx_ok, rx_bad, rx_of, rx_bind, rx_run, rx_ite, sx_nx, sx_ct, sx_bk, sx_rt, sx_so, sx_ite, sx_seq, sx_kill, sx_for, sx_ret, sx_drop, sx_set, sx_asgN, sx_if, sx_next, sx_mbk, sx_mct, rx_un, rx_op, rx_var, rx_move, rx_c, rx_opL, rx_pair, rx_pairL, rx_cons, rx_call, rx_callI, rx_bm, rx_bm0, sx_setI, rx_not, rx_and, rx_or, rx_if, rx_chain, rx_mSome, rx_mNone, rx_part, rx_sl, rx_slL, rx_rng1, rx_rng2, rx_enum, rx_lock, rx_dget2, rx_keys, rx_lc, rx_yes, rx_runD, rx_runDS, sx_raise, sx_asg, rx_unw, rx_callE, gSsetG, rp_lam, rx_out, rp_out, toL, toR, toTh, gDisp1, gRepT, gDictP, pairTh, gIsTB, gNotTB, gIsTh_int, gIsTh_bool, gIsTh_list, gIsTh_tuple, gIsTh_str, gIsTh_dict, List.map_id', rp_runD, rp_runDS, rp_runI, rp_runIS, sp_seq, sp_kill, sp_al, sp_for, sp_ret, sp_drop, sp_set, sp_asgN, sp_if, sp_next, sp_mbk, sp_mct, sp_nx, sp_ct, sp_bk, sp_rt, sp_so, sp_ite, sp_setI, rp_ok, rp_bad, rp_of, rp_bind, rp_bindN, rp_run, rp_ite, rp_un, rp_op, rp_var, rp_move, rp_c, rp_opL, rp_pair, rp_pairL, rp_pairM, rp_cons, rp_call, rp_callI, rp_bm, rp_bm0, rp_not, rp_and, rp_or, rp_if, rp_chain, rp_mSome, rp_mNone, rp_part, rp_sl, rp_slL, rp_rng1, rp_rng2, rp_enum, rp_lock, rp_dget2, rp_keys, rp_lc, rp_yes, rp_callX, rp_callXI, rp_signs, rp_unw, sp_asg, rp_ptTwo, rp_ptSub, gLen2, Ln.get_zlS, Ln.get_zlN, Ln.put_zlS, Ln.put_zlN, Ln.get_zrS, Ln.get_zrN, Ln.put_zrS, Ln.put_zrN, gSetF, gSsetF, gStep, gCut32, gMin2, gMax2, gRem, gIsi, gSortK, gStr, gLenS, gUpd, gSplit, gIntS, gSortF, op_some, op_ite, Ln.get_z, Ln.put_z, Ln.get_s, Ln.put_s, pN, p2, p3, gAdd, gSubI, gMul, gDiv, gMod, gPow, gShl, gShr, gAnd, gOr, gXor, gLt, gLe, gGt, gGe, gEq, gNe, gNeg, gIsN, gNotN, gLen, gFst, gSnd, g31, g32, gCat, gRep, gCut, gId, gRg, gRev, gIn, gNin, gAll, gAny, gSum, gMax, gAbs, gIntB, gSort, gSet, gSset, gApp, gIns, gExt, gRevM, gSet31, gSet32, dIn, dNin, gDPut, gRepr, szOk, id, if_true, if_false, decide_eq_true_eq, true_and, and_true, Bool.false_eq_true, ite_true, ite_false, eq_self_iff_true, and_self, true_or, or_true, Int.reduceLT, Int.reduceLE, Int.reduceNeg, Int.reduceSub, Int.reduceAdd, Int.reduceMul, Int.reduceEq, Nat.reduceLT, Nat.reduceLeDiff, Nat.reduceAdd, Nat.reduceSub, Nat.reduceMul, List.length_cons, List.length_nil])
local macro_rules | `(tactic| walk_at "mu") => `(tactic| simp only [gRepT0, rp_extD, sp_each, op_lnP, ln_putS, ln_putN, op_lnU, ln_putU, gMulS0, rp_dr, rp_bmF, sp_setF, rp_methT, gJoin, gCutS, gSetLS, gSplit, rp_lockV, rp_fstApp, rp_sndClr, gIt2, gItS, sp_popD, sp_subPop, sp_put2, rp_dictDD, op_popK, op_sortFK, rp_at0App, rp_rngD, sp_lockS, gBits, gMinT, gSortTp, gDictPT, gKeysT, gVNin, rp_view, rp_appD, rp_insD, rp_sdApp, sp_sp1, sp_sp2, gSp, gSortKI, gPl, gPa, gPc, gSetPl, gSetPa, gAddS, gMulS, gLenSI, gLenST, gDispT, gMulW, rx_ok, rx_bad, rx_of, rx_bind, rx_run, rx_ite, sx_nx, sx_ct, sx_bk, sx_rt, sx_so, sx_ite, sx_seq, sx_kill, sx_for, sx_ret, sx_drop, sx_set, sx_asgN, sx_if, sx_next, sx_mbk, sx_mct, rx_un, rx_op, rx_var, rx_move, rx_c, rx_opL, rx_pair, rx_pairL, rx_cons, rx_call, rx_callI, rx_bm, rx_bm0, sx_setI, rx_not, rx_and, rx_or, rx_if, rx_chain, rx_mSome, rx_mNone, rx_part, rx_sl, rx_slL, rx_rng1, rx_rng2, rx_enum, rx_lock, rx_dget2, rx_keys, rx_lc, rx_yes, rx_runD, rx_runDS, sx_raise, sx_asg, rx_unw, rx_callE, gSsetG, rp_lam, rx_out, rp_out, toL, toR, toTh, gDisp1, gRepT, gDictP, pairTh, gIsTB, gNotTB, gIsTh_int, gIsTh_bool, gIsTh_list, gIsTh_tuple, gIsTh_str, gIsTh_dict, List.map_id', rp_runD, rp_runDS, rp_runI, rp_runIS, sp_seq, sp_kill, sp_al, sp_for, sp_ret, sp_drop, sp_set, sp_asgN, sp_if, sp_next, sp_mbk, sp_mct, sp_nx, sp_ct, sp_bk, sp_rt, sp_so, sp_ite, sp_setI, rp_ok, rp_bad, rp_of, rp_bind, rp_bindN, rp_run, rp_ite, rp_un, rp_op, rp_var, rp_move, rp_c, rp_opL, rp_pair, rp_pairL, rp_pairM, rp_cons, rp_call, rp_callI, rp_bm, rp_bm0, rp_not, rp_and, rp_or, rp_if, rp_chain, rp_mSome, rp_mNone, rp_part, rp_sl, rp_slL, rp_rng1, rp_rng2, rp_enum, rp_lock, rp_dget2, rp_keys, rp_lc, rp_yes, rp_callX, rp_callXI, rp_signs, rp_unw, sp_asg, rp_ptTwo, rp_ptSub, gLen2, Ln.get_zlS, Ln.get_zlN, Ln.put_zlS, Ln.put_zlN, Ln.get_zrS, Ln.get_zrN, Ln.put_zrS, Ln.put_zrN, gSetF, gSsetF, gStep, gCut32, gMin2, gMax2, gRem, gIsi, gSortK, gStr, gLenS, gUpd, gSplit, gIntS, gSortF, op_some, op_ite, Ln.get_z, Ln.put_z, Ln.get_s, Ln.put_s, pN, p2, p3, gAdd, gSubI, gMul, gDiv, gMod, gPow, gShl, gShr, gAnd, gOr, gXor, gLt, gLe, gGt, gGe, gEq, gNe, gNeg, gIsN, gNotN, gLen, gFst, gSnd, g31, g32, gCat, gRep, gCut, gId, gRg, gRev, gIn, gNin, gAll, gAny, gSum, gMax, gAbs, gIntB, gSort, gSet, gSset, gApp, gIns, gExt, gRevM, gSet31, gSet32, dIn, dNin, gDPut, gRepr, szOk, id, if_true, if_false, decide_eq_true_eq, true_and, and_true, Bool.false_eq_true, ite_true, ite_false, eq_self_iff_true, and_self, true_or, or_true, Int.reduceLT, Int.reduceLE, Int.reduceNeg, Int.reduceSub, Int.reduceAdd, Int.reduceMul, Int.reduceEq, Nat.reduceLT, Nat.reduceLeDiff, Nat.reduceAdd, Nat.reduceSub, Nat.reduceMul, List.length_cons, List.length_nil])
local macro_rules | `(tactic| walk_at "mv") => `(tactic| simp only [gMin2L, gKeys, gRepT0, rp_extD, sp_each, op_lnP, ln_putS, ln_putN, op_lnU, ln_putU, gMulS0, rp_dr, rp_bmF, sp_setF, rp_methT, gJoin, gCutS, gSetLS, gSplit, rp_lockV, rp_fstApp, rp_sndClr, gIt2, gItS, sp_popD, sp_subPop, sp_put2, rp_dictDD, op_popK, op_sortFK, rp_at0App, rp_rngD, sp_lockS, gBits, gMinT, gSortTp, gDictPT, gKeysT, gVNin, rp_view, rp_appD, rp_insD, rp_sdApp, sp_sp1, sp_sp2, gSp, gSortKI, gPl, gPa, gPc, gSetPl, gSetPa, gAddS, gMulS, gLenSI, gLenST, gDispT, gMulW, rx_ok, rx_bad, rx_of, rx_bind, rx_run, rx_ite, sx_nx, sx_ct, sx_bk, sx_rt, sx_so, sx_ite, sx_seq, sx_kill, sx_for, sx_ret, sx_drop, sx_set, sx_asgN, sx_if, sx_next, sx_mbk, sx_mct, rx_un, rx_op, rx_var, rx_move, rx_c, rx_opL, rx_pair, rx_pairL, rx_cons, rx_call, rx_callI, rx_bm, rx_bm0, sx_setI, rx_not, rx_and, rx_or, rx_if, rx_chain, rx_mSome, rx_mNone, rx_part, rx_sl, rx_slL, rx_rng1, rx_rng2, rx_enum, rx_lock, rx_dget2, rx_keys, rx_lc, rx_yes, rx_runD, rx_runDS, sx_raise, sx_asg, rx_unw, rx_callE, gSsetG, rp_lam, rx_out, rp_out, toL, toR, toTh, gDisp1, gRepT, gDictP, pairTh, gIsTB, gNotTB, gIsTh_int, gIsTh_bool, gIsTh_list, gIsTh_tuple, gIsTh_str, gIsTh_dict, List.map_id', rp_runD, rp_runDS, rp_runI, rp_runIS, sp_seq, sp_kill, sp_al, sp_for, sp_ret, sp_drop, sp_set, sp_asgN, sp_if, sp_next, sp_mbk, sp_mct, sp_nx, sp_ct, sp_bk, sp_rt, sp_so, sp_ite, sp_setI, rp_ok, rp_bad, rp_of, rp_bind, rp_bindN, rp_run, rp_ite, rp_un, rp_op, rp_var, rp_move, rp_c, rp_opL, rp_pair, rp_pairL, rp_pairM, rp_cons, rp_call, rp_callI, rp_bm, rp_bm0, rp_not, rp_and, rp_or, rp_if, rp_chain, rp_mSome, rp_mNone, rp_part, rp_sl, rp_slL, rp_rng1, rp_rng2, rp_enum, rp_lock, rp_dget2, rp_keys, rp_lc, rp_yes, rp_callX, rp_callXI, rp_signs, rp_unw, sp_asg, rp_ptTwo, rp_ptSub, gLen2, Ln.get_zlS, Ln.get_zlN, Ln.put_zlS, Ln.put_zlN, Ln.get_zrS, Ln.get_zrN, Ln.put_zrS, Ln.put_zrN, gSetF, gSsetF, gStep, gCut32, gMin2, gMax2, gRem, gIsi, gSortK, gStr, gLenS, gUpd, gSplit, gIntS, gSortF, op_some, op_ite, Ln.get_z, Ln.put_z, Ln.get_s, Ln.put_s, pN, p2, p3, gAdd, gSubI, gMul, gDiv, gMod, gPow, gShl, gShr, gAnd, gOr, gXor, gLt, gLe, gGt, gGe, gEq, gNe, gNeg, gIsN, gNotN, gLen, gFst, gSnd, g31, g32, gCat, gRep, gCut, gId, gRg, gRev, gIn, gNin, gAll, gAny, gSum, gMax, gAbs, gIntB, gSort, gSet, gSset, gApp, gIns, gExt, gRevM, gSet31, gSet32, dIn, dNin, gDPut, gRepr, szOk, id, if_true, if_false, decide_eq_true_eq, true_and, and_true, Bool.false_eq_true, ite_true, ite_false, eq_self_iff_true, and_self, true_or, or_true, Int.reduceLT, Int.reduceLE, Int.reduceNeg, Int.reduceSub, Int.reduceAdd, Int.reduceMul, Int.reduceEq, Nat.reduceLT, Nat.reduceLeDiff, Nat.reduceAdd, Nat.reduceSub, Nat.reduceMul, List.length_cons, List.length_nil])
theorem q_lmixed (c k : Int) : RsP (m_lmixed c k) fun _ _ => True := by
  unfold m_lmixed M_lmixed
  walk_at "mi"
  constructor <;> omega
def PenOk (st : List Int × Int × Int) : Prop := 0 ≤ st.2.1 ∧ 0 ≤ st.2.2
theorem atI_mod {xs : List Int} {k : Int} (h : 0 < (xs.length : Int)) : ∃ x, gIx xs (k % xs.length) = some x := by
  have h0 := Int.emod_nonneg k (show (xs.length : Int) ≠ 0 by omega)
  have h1 := Int.emod_lt_of_pos k h
  obtain ⟨j, hj⟩ : ∃ j : Nat, k % xs.length = (j : Int) := ⟨(k % xs.length).toNat, by omega⟩
  rw [hj] at h0 h1 ⊢
  exact ⟨xs[j]'(by omega), atI_nat (List.getElem?_eq_getElem _)⟩
theorem q_ltake {st : List Int × Int × Int} {m : Int} (h : PenOk st) (h0 : 0 < m) (h1 : m < 1073741824) : RsP (m_ltake st m) fun r st' => (0 ≤ r ∧ r < m) ∧ PenOk st' := by
  obtain ⟨sc, at', gr⟩ := st
  obtain ⟨hp1, hp2⟩ := h
  dsimp only at hp1 hp2
  unfold m_ltake M_ltake
  walk_at "mi"
  have fin : ∀ a : Int, RsP (m_lmixed a at') fun a x => 0 < m ∧ (0 ≤ a % m ∧ a % m < m) ∧ PenOk (sc, at' + 1, gr) := fun a =>
    (q_lmixed a at').imp fun r _ _ => ⟨h0, ⟨Int.emod_nonneg _ (by omega), Int.emod_lt_of_pos _ h0⟩, by constructor <;> simp only [] <;> omega⟩
  have fin2 : ∀ a : Int, 0 < m ∧ (0 < m ∧ m < 1073741824) ∧ (0 ≤ absI a % m ∧ absI a % m < m) ∧ PenOk (sc, at' + 1, absI a / m) := fun a =>
    ⟨h0, ⟨h0, h1⟩, ⟨Int.emod_nonneg _ (by omega), Int.emod_lt_of_pos _ h0⟩, by dsimp only; omega, Int.ediv_nonneg (absI_nonneg a) (by omega)⟩
  split
  · split
    · next hs =>
      obtain ⟨x, hx⟩ := atI_mod (k := at') hs
      rw [hx, op_some]
      refine ⟨hs, ?_⟩
      split
      · exact fin x
      · exact iteI (fun _ => fin x) fun _ => fin2 x
    · split
      · exact fin 11
      · exact iteI (fun _ => fin 11) fun _ => fin2 11
  · exact ⟨h0, ⟨h0, h1⟩, ⟨Int.emod_nonneg _ (by omega), Int.emod_lt_of_pos _ h0⟩, hp1, Int.ediv_nonneg hp2 (by omega)⟩
/-- an item that is there -/
theorem ix_nat {α : Type} {xs : List α} {i : Int} (h0 : 0 ≤ i) (h1 : i < xs.length) : ∃ x ∈ xs, gIx xs i = some x := by
  obtain ⟨j, rfl⟩ : ∃ j : Nat, i = (j : Int) := ⟨i.toNat, by omega⟩
  exact ⟨xs[j]'(by omega), List.getElem_mem _, atI_nat (List.getElem?_eq_getElem _)⟩
theorem op_ix {α : Type} {xs : List α} {i : Int} {Q : α → Prop} (h0 : 0 ≤ i) (h1 : i < xs.length) (q : ∀ x ∈ xs, Q x) : OpP (gIx xs i) Q := by
  obtain ⟨x, hx, e⟩ := ix_nat h0 h1
  rw [e, op_some]
  exact q x hx
def wo (f : List Int) (c : Int) : List Int := f.filter fun x => !decide (x = c)
theorem q_lless {f g : List Int} (h : f.length ≤ 1000) : RsP (m_lless f g) fun r _ => r = f.filter fun x => !decide (x ∈ g) := by
  unfold m_lless M_lless
  walk_at "mi"
  refine ⟨by omega, lcP (fun x => !decide (x ∈ g)) id (fun x _ => ?_) ?_⟩
  · walk_at "mi"
    split <;> trivial
  · simp
theorem less_one (f : List Int) (c : Int) : (f.filter fun x => !decide (x ∈ [c])) = wo f c := by simp [wo]
theorem dput_length {κ β : Type} [DecidableEq κ] (d : List (κ × β)) (k : κ) (b : β) : (dput d k b).length ≤ d.length + 1 := by
  unfold dput
  split
  · simp
  · simp
theorem ins_perm {α : Type} (fd : List α) (x : α) (k : Nat) : (fd.take k ++ [x] ++ fd.drop k).Perm (fd ++ [x]) := by
  rw [List.append_assoc]
  refine (List.Perm.append_left _ List.perm_append_comm).trans ?_
  rw [← List.append_assoc, List.take_append_drop]
/-- a drawn corner's number -/
def cv (r n k : Int) : Int := if r = 0 then k else if r = 1 then k - n / 2 else if r = 2 then 999999999999999999999999999999 - k else (k - n / 2) * 10000000000000000000000000000 + k
theorem cv_ix {r : Int} (r0 : 0 ≤ r) (r1 : r < 4) {n k : Int} : gIx [k, k - n / 2, 999999999999999999999999999999 - k, (k - n / 2) * 10000000000000000000000000000 + k] r = some (cv r n k) := by
  have : r = 0 ∨ r = 1 ∨ r = 2 ∨ r = 3 := by omega
  rcases this with rfl | rfl | rfl | rfl <;> rfl
theorem cv_inj {r n j k : Int} (h : cv r n j = cv r n k) : j = k := by
  unfold cv at h
  split at h
  · exact h
  · split at h
    · omega
    · split at h
      · omega
      · omega
theorem cv_bd {r n : Int} {k : Int} (n1 : n ≤ 100) (k0 : 0 ≤ k) (k1 : k < n) : -1000000000000000000000000000000 < cv r n k ∧ cv r n k < 1000000000000000000000000000000 := by
  unfold cv
  split
  · omega
  · split
    · omega
    · split
      · omega
      · omega
/-- corners, all unlike -/
def Cs (n : Nat) (xs : List Int) : Prop := xs.length = n ∧ xs.Nodup ∧ ∀ x ∈ xs, -1000000000000000000000000000000 < x ∧ x < 1000000000000000000000000000000
theorem q_lcorners' {st : List Int × Int × Int} {n : Nat} (h : PenOk st) (hn : n ≤ 100) : RsP (m_lcorners st (n : Int)) fun xs st' => Cs n xs ∧ PenOk st' := by
  unfold m_lcorners M_lcorners
  walk_at "mi"
  refine (q_ltake h (by decide) (by decide)).imp ?_
  rintro r st1 ⟨⟨r0, r1⟩, h1⟩
  refine ⟨by simp [bigI]; omega, ?_⟩
  refine loopR (n := n) rfl (fun i e => ∃ fd st2, fd.Perm ((List.range i).map fun (k : Nat) => cv r n k) ∧ PenOk st2 ∧ e = (some st2, some (n : Int), some r, some fd, none, none, ())) ⟨[], st1, by simp, h1, rfl⟩ ?_ ?_
  · rintro i e hi ⟨fd, st2, hf, h2, rfl⟩
    have hl : fd.length = i := by rw [hf.length_eq]; simp
    walk_at "mi"
    have hmw : gMulW ((i : Int) - (n : Int) / 2) 10000000000000000000000000000 = some (((i : Int) - (n : Int) / 2) * 10000000000000000000000000000) := by
      refine if_pos ?_
      have h1 : ((i : Int) - (n : Int) / 2).natAbs.log2 ≤ 200 := by
        have := Nat.log2_le_self ((i : Int) - (n : Int) / 2).natAbs
        omega
      have h2 : (10000000000000000000000000000 : Int).natAbs.log2 ≤ 200 := by decide +kernel
      omega
    rw [hmw, op_some, cv_ix r0 r1, op_some]
    refine (q_ltake h2 (by omega) (by omega)).imp ?_
    rintro b st3 ⟨⟨b0, b1⟩, h3⟩
    refine ⟨⟨by omega, b0, by omega⟩, _, st3, ?_, h3, rfl⟩
    refine (ins_perm _ _ _).trans ?_
    rw [List.range_succ, List.map_append]
    exact hf.append_right _
  · rintro e ⟨fd, st2, hf, h2, rfl⟩
    walk_at "mi"
    refine ⟨⟨by rw [hf.length_eq]; simp, ?_, fun x hx => ?_⟩, h2⟩
    · rw [hf.nodup_iff]
      refine (List.nodup_range).map _ ?_
      intro a b hab e
      exact hab (by have := cv_inj e; omega)
    · obtain ⟨k, hk, rfl⟩ := List.mem_map.mp (hf.mem_iff.mp hx)
      rw [List.mem_range] at hk
      exact cv_bd (by omega) (by omega) (by omega)
theorem q_lorder {st : List Int × Int × Int} {n : Nat} (h : PenOk st) (hn : n ≤ 1000) : RsP (m_lorder st (n : Int)) fun xs st' => xs.Perm ((List.range n).map fun (k : Nat) => (k : Int)) ∧ PenOk st' := by
  unfold m_lorder M_lorder
  walk_at "mi"
  refine ⟨by simp [bigI]; omega, ?_⟩
  refine loopR (n := n) rfl (fun i e => ∃ fd st2, fd.Perm ((List.range i).map fun (k : Nat) => (k : Int)) ∧ PenOk st2 ∧ e = (some st2, some (n : Int), some fd, none, ())) ⟨[], st, by simp, h, rfl⟩ ?_ ?_
  · rintro i e hi ⟨fd, st2, hf, h2, rfl⟩
    have hl : fd.length = i := by rw [hf.length_eq]; simp
    walk_at "mi"
    refine (q_ltake h2 (by omega) (by omega)).imp ?_
    rintro b st3 ⟨⟨b0, b1⟩, h3⟩
    refine ⟨⟨by omega, b0, by omega⟩, _, st3, ?_, h3, rfl⟩
    refine (ins_perm _ _ _).trans ?_
    rw [List.range_succ, List.map_append]
    exact hf.append_right _
  · rintro e ⟨fd, st2, hf, h2, rfl⟩
    walk_at "mi"
    exact ⟨hf, h2⟩
theorem srt_length (xs : List Int) : (srt xs).length = xs.length := (srt_perm xs).length_eq
theorem srt_nodup {xs : List Int} (h : xs.Nodup) : (srt xs).Nodup := (srt_perm xs).nodup_iff.mpr h
theorem cut_to {α : Type} {xs : List α} {k : Nat} (h : k ≤ xs.length) : cutL xs none (some (k : Int)) = xs.take k := by
  unfold cutL
  rw [HT.sIx_none, show HT.sIx xs.length xs.length (some (k : Int)) = min k xs.length from HT.sIx_nat _ _ k, Nat.sub_zero, List.drop_zero, Nat.min_eq_left h]
theorem cut_sub {α : Type} {xs : List α} {lo hi : Option Int} {x : α} (h : x ∈ cutL xs lo hi) : x ∈ xs := List.mem_of_mem_drop (List.mem_of_mem_take h)
theorem cut_len {α : Type} (xs : List α) (lo hi : Option Int) : (cutL xs lo hi).length ≤ xs.length := by
  unfold cutL
  rw [List.length_take, List.length_drop]
  omega
theorem wo_mem {f : List Int} {c x : Int} : x ∈ wo f c ↔ x ∈ f ∧ x ≠ c := by simp [wo]
theorem wo_len : ∀ {f : List Int} {c : Int}, f.Nodup → c ∈ f → (wo f c).length + 1 = f.length
  | x :: f, c, hn, hc => by
    obtain ⟨h1, h2⟩ := List.nodup_cons.mp hn
    unfold wo
    rw [List.filter_cons]
    by_cases e : x = c
    · subst e
      rw [if_neg (by simp), List.length_cons, List.filter_eq_self.mpr]
      intro y hy
      simp
      intro z
      exact h1 (z ▸ hy)
    · rw [if_pos (by simp [e]), List.length_cons, List.length_cons]
      have := wo_len (c := c) h2 (by rcases List.mem_cons.mp hc with z | z; exact absurd z.symm e; exact z)
      unfold wo at this
      omega
/-- pieces of just so many unlike corners -/
def Pc (names : List Int) (s : Nat) (ps : List (List Int)) : Prop := ∀ p ∈ ps, p.length = s ∧ p.Nodup ∧ p.Pairwise (· ≤ ·) ∧ ∀ x ∈ p, x ∈ names
theorem srt_mem {xs : List Int} {x : Int} : x ∈ srt xs ↔ x ∈ xs := (srt_perm xs).mem_iff
theorem erase_perm {α : Type} {xs : List α} {k : Nat} (h : k < xs.length) : (xs[k] :: xs.eraseIdx k).Perm xs := by
  rw [List.eraseIdx_eq_take_drop_succ]
  refine List.perm_middle.symm.trans ?_
  rw [← List.drop_eq_getElem_cons h, List.take_append_drop]
abbrev Up (p : List Int) : Prop := p.Pairwise (· < ·)
def inn (f g : List Int) : Bool := decide (∀ c ∈ f, c ∈ g)
theorem inn_iff {f g : List Int} : inn f g = true ↔ ∀ c ∈ f, c ∈ g := by simp [inn]
theorem wo_inn {f : List Int} {c : Int} : inn (wo f c) f = true := inn_iff.mpr fun _ h => (wo_mem.mp h).1
theorem in_wo {f p : List Int} {c : Int} (h : inn f p = true) (hc : c ∉ f) : inn f (wo p c) = true := inn_iff.mpr fun x hx => wo_mem.mpr ⟨inn_iff.mp h x hx, fun e => hc (e ▸ hx)⟩
/-- rising, of so many corners -/
def Ri (n : Nat) (p : List Int) : Prop := p.length = n ∧ p.Pairwise (· < ·)
theorem Ri.nd {n : Nat} {p : List Int} (h : Ri n p) : p.Nodup := h.2.imp fun h => Int.ne_of_lt h
theorem wo_pw {p : List Int} {c : Int} (h : p.Pairwise (· < ·)) : (wo p c).Pairwise (· < ·) := h.filter _
theorem Ri.wo {n : Nat} {p : List Int} {c : Int} (h : Ri (n + 1) p) (hc : c ∈ p) : Ri n (wo p c) := ⟨by have := wo_len h.nd hc; have := h.1; omega, wo_pw h.2⟩
theorem inn_sub {F P : List Int} (hF : Up F) (hP : Up P) (h : inn F P = true) : F.Sublist P := by
  have e : F = P.filter (fun c => decide (c ∈ F)) := rise_eq hF (hP.filter _) fun c => by
    rw [List.mem_filter, decide_eq_true_iff]
    exact ⟨fun h' => ⟨inn_iff.mp h c h', h'⟩, fun h' => h'.2⟩
  rw [e]
  exact List.filter_sublist
/-- what lies in a piece and has one corner less is a side -/
theorem side_of {n : Nat} {p s : List Int} (hp : Ri (n + 1) p) (hs : Ri n s) (h : inn s p = true) : ∃ d ∈ p, s = wo p d := by
  have : ∃ d ∈ p, d ∉ s := by
    apply Classical.byContradiction
    intro z
    have e : s = p := rise_eq hs.2 hp.2 fun c => ⟨fun h' => inn_iff.mp h c h', fun h' => Classical.byContradiction fun y => z ⟨c, h', y⟩⟩
    have := hs.1
    rw [e, hp.1] at this
    omega
  obtain ⟨d, hd, hn⟩ := this
  exact ⟨d, hd, (inn_sub hs.2 (wo_pw hp.2) (in_wo h hn)).eq_of_length (by rw [hs.1, (hp.wo hd).1])⟩
def xr2 {α : Type} (S : List α) (f : α → Bool) : Bool := S.foldr (fun s b => xor (f s) b) false
theorem xr2_cons {α : Type} (x : α) (S : List α) (f : α → Bool) : xr2 (x :: S) f = xor (f x) (xr2 S f) := rfl
theorem xr2_xor {α : Type} (f g : α → Bool) : ∀ S : List α, xr2 S (fun s => xor (f s) (g s)) = xor (xr2 S f) (xr2 S g)
  | [] => rfl
  | x :: S => by
    rw [xr2_cons, xr2_cons, xr2_cons, xr2_xor f g S]
    cases f x <;> cases g x <;> cases xr2 S f <;> cases xr2 S g <;> rfl
theorem xr2_congr {α : Type} {f g : α → Bool} : ∀ {S : List α}, (∀ s ∈ S, f s = g s) → xr2 S f = xr2 S g
  | [], _ => rfl
  | x :: S, h => by rw [xr2_cons, xr2_cons, h x List.mem_cons_self, xr2_congr fun s hs => h s (List.mem_cons_of_mem _ hs)]
/-- what a piece brings behind others -/
def br (A : List (List Int)) (p : List Int) : List Int := p.filter fun c => A.any fun q => inn (wo p c) q
theorem mem_br {A : List (List Int)} {p : List Int} {c : Int} : c ∈ br A p ↔ c ∈ p ∧ ∃ q ∈ A, inn (wo p c) q = true := by
  unfold br
  rw [List.mem_filter, List.any_eq_true]
def FitW (A : List (List Int)) (p : List Int) : Prop := ∀ q ∈ A, ∃ c ∈ br A p, c ∉ q
inductive FL : List (List Int) → Prop
  | nil : FL []
  | snoc {A : List (List Int)} {p : List Int} : FL A → FitW A p → FL (A ++ [p])
theorem FL.split {ps : List (List Int)} (h : FL ps) : ∀ {A B : List (List Int)} {p : List Int}, ps = A ++ p :: B → FL A ∧ FitW A p := by
  induction h with
  | nil => intro A B p e; simp at e
  | snoc h1 h2 ih =>
    rename_i A0 p0
    intro A B p e
    rcases List.eq_nil_or_concat B with rfl | ⟨B', b, eB⟩
    · have := List.append_inj' e rfl
      obtain ⟨rfl, h3⟩ := this
      cases h3
      exact ⟨h1, h2⟩
    · have e' : A0 ++ [p0] = (A ++ p :: B') ++ [b] := by rw [e, eB]; simp
      exact ih (List.append_inj' e' rfl).1
theorem FitW.not {A : List (List Int)} {p : List Int} (h : FitW A p) : p ∉ A := fun hp => by
  obtain ⟨c, h1, h2⟩ := h p hp
  exact h2 (mem_br.mp h1).1
theorem FL.nd {ps : List (List Int)} (h : FL ps) : ps.Nodup := by
  induction h with
  | nil => simp
  | snoc h1 h2 ih =>
    rw [List.nodup_append]
    refine ⟨ih, by simp, fun x hx y hy e => ?_⟩
    rw [List.mem_singleton.mp hy] at e
    exact h2.not (e ▸ hx)
theorem len_split (p R : List Int) : (p.filter fun x => decide (x ∈ R)).length + (p.filter fun x => !decide (x ∈ R)).length = p.length := by
  induction p with
  | nil => rfl
  | cons x p ih =>
    rw [List.filter_cons, List.filter_cons]
    by_cases h : x ∈ R <;> simp [h] <;> omega
section
variable {n : Nat} {F : List Int} {S : List (List Int)}
/-- even about each face of two corners less -/
def Ev (n : Nat) (F : List Int) (S : List (List Int)) (z : List Int → Bool) : Prop := ∀ k r, k + 2 = n → Ri k r → inn F r = true → xr2 S (fun s => inn r s && z s) = false
theorem Ev.xor {z y : List Int → Bool} (h1 : Ev n F S z) (h2 : Ev n F S y) : Ev n F S fun s => Bool.xor (z s) (y s) := by
  intro k r hk hr hF
  have e : xr2 S (fun s => inn r s && Bool.xor (z s) (y s)) = xr2 S (fun s => Bool.xor (inn r s && z s) (inn r s && y s)) := xr2_congr fun s _ => by cases inn r s <;> simp
  rw [e, xr2_xor, h1 k r hk hr hF, h2 k r hk hr hF]
  rfl
end
def nS (ps : List (List Int)) (s : List Int) : Nat := (ps.filter fun q => inn s q).length
section
variable {n : Nat} {ps : List (List Int)}
/-- each side lies in just two pieces -/
def Cl (ps : List (List Int)) : Prop := ∀ p ∈ ps, ∀ c ∈ p, nS ps (wo p c) = 2
end
theorem br_congr {A A' : List (List Int)} (h : ∀ q, q ∈ A ↔ q ∈ A') (p : List Int) : br A p = br A' p := by
  unfold br
  refine List.filter_congr fun c _ => ?_
  rw [Bool.eq_iff_iff, List.any_eq_true, List.any_eq_true]
  exact ⟨fun ⟨q, h1, h2⟩ => ⟨q, (h q).mp h1, h2⟩, fun ⟨q, h1, h2⟩ => ⟨q, (h q).mpr h1, h2⟩⟩
theorem FitW.congr {A A' : List (List Int)} (h : ∀ q, q ∈ A ↔ q ∈ A') {p : List Int} (hf : FitW A p) : FitW A' p := fun q hq => by
  rw [← br_congr h]
  exact hf q ((h q).mpr hq)
theorem FL.of : ∀ (m : Nat) (ps : List (List Int)), ps.length = m → (∀ A p B, ps = A ++ p :: B → FitW A p) → FL ps
  | 0, ps, hl, _ => by rw [List.length_eq_zero_iff.mp hl]; exact .nil
  | m + 1, ps, hl, h => by
    rcases List.eq_nil_or_concat ps with rfl | ⟨X, x, eX⟩
    · exact .nil
    rw [List.concat_eq_append] at eX
    subst eX
    exact .snoc (FL.of m X (by simpa using hl) fun A p B e => h A p (B ++ [x]) (by rw [e]; simp)) (h X x [] rfl)
/-- closed, told by the other piece -/
def ClX (ps : List (List Int)) : Prop := ∀ p ∈ ps, ∀ c ∈ p, ∃ q ∈ ps, q ≠ p ∧ inn (wo p c) q = true ∧ ∀ w ∈ ps, inn (wo p c) w = true → w = p ∨ w = q
theorem len_two {α : Type} {V : List α} {a b : α} (hab : a ≠ b) (hn : V.Nodup) (h : ∀ v, v ∈ V ↔ v = a ∨ v = b) : V.length = 2 := by
  have : V.Perm [a, b] := (List.perm_ext_iff_of_nodup hn (by simp [hab])).mpr fun v => by rw [h v]; simp
  exact this.length_eq
theorem ClX.cl {ps : List (List Int)} (hn : ps.Nodup) (h : ClX ps) : Cl ps := fun p hp c hc => by
  obtain ⟨q, h1, h2, h3, h4⟩ := h p hp c hc
  refine len_two (a := p) (b := q) (Ne.symm h2) (hn.filter _) fun w => ?_
  rw [List.mem_filter]
  constructor
  · exact fun ⟨a, b⟩ => h4 w a b
  · rintro (rfl | rfl)
    · exact ⟨hp, wo_inn⟩
    · exact ⟨h1, h3⟩
section
variable {V : List Int} {g : Nat → List Int} {m : Nat}
def nx (m k : Nat) : Nat := if k + 1 = m then 0 else k + 1
end
def pcs (sh : List (List Int)) (i : Int) : List Int := sh[i.toNat]?.getD []
theorem pcs_mem {sh : List (List Int)} {k : Int} (h0 : 0 ≤ k) (h1 : k < sh.length) : pcs sh k ∈ sh := by
  unfold pcs
  rw [List.getElem?_eq_getElem (show k.toNat < sh.length by omega)]
  exact List.getElem_mem _
/-- the rows of an order behind others -/
def rwn (sh : List (List Int)) : List (List Int) → List Int → List (Int × List Int)
  | _, [] => []
  | A, k :: od => (k, br A (pcs sh k)) :: rwn sh (A ++ [pcs sh k]) od
theorem rwn_app (sh : List (List Int)) : ∀ (od od' : List Int) (A : List (List Int)), rwn sh A (od ++ od') = rwn sh A od ++ rwn sh (A ++ od.map (pcs sh)) od'
  | [], od', A => by simp [rwn]
  | k :: od, od', A => by
    rw [List.cons_append, rwn, rwn, rwn_app sh od od', List.map_cons, List.append_assoc]
    rfl
theorem rwn_len (sh : List (List Int)) : ∀ (od : List Int) (A : List (List Int)), (rwn sh A od).length = od.length
  | [], _ => rfl
  | k :: od, A => by rw [rwn, List.length_cons, List.length_cons, rwn_len sh od]
theorem rwn_fst (sh : List (List Int)) : ∀ (od : List Int) (A : List (List Int)), (rwn sh A od).map (·.1) = od
  | [], _ => rfl
  | k :: od, A => by rw [rwn, List.map_cons, rwn_fst sh od]
theorem rwn_mem {sh : List (List Int)} : ∀ {od : List Int} {A : List (List Int)} {r : Int × List Int}, r ∈ rwn sh A od → r.1 ∈ od ∧ ∃ A', r.2 = br A' (pcs sh r.1)
  | k :: od, A, r, h => by
    rw [rwn] at h
    rcases List.mem_cons.mp h with rfl | h
    · exact ⟨List.mem_cons_self, A, rfl⟩
    · obtain ⟨h1, h2⟩ := rwn_mem h
      exact ⟨List.mem_cons_of_mem _ h1, h2⟩
def dd (xs : List (List Int)) : List (List Int) := xs.foldr (fun x ys => if x ∈ ys then ys else x :: ys) []
/-- what is there can be asked -/
theorem dget_key {κ β : Type} [DecidableEq κ] : ∀ {d : List (κ × β)} {k : κ}, k ∈ keysOf d → ∃ b, dget d k = some b
  | [], k, h => by simp [keysOf] at h
  | (k', b) :: d, k, h => by
    unfold dget
    rw [List.find?_cons]
    by_cases e : k' = k
    · exact ⟨b, by simp [e]⟩
    · have h' : k ∈ keysOf d := by
        rcases List.mem_cons.mp (show k ∈ k' :: keysOf d from h) with z | z
        · exact absurd z.symm e
        · exact z
      obtain ⟨b', hb⟩ := dget_key h'
      exact ⟨b', by simp only [e, decide_false]; exact hb⟩
theorem op_head {sh : List (List Int)} {Q : List Int → Prop} (h : 1 ≤ sh.length) (q : Q (sh.headD [])) : OpP (gIx sh 0) Q := by
  cases sh with
  | nil => simp at h
  | cons p sh => rw [show gIx (p :: sh) 0 = some p by simp [gIx, atI, ixN], op_some]; exact q
theorem mem_dput {β : Type} {d : List (List Int × β)} {k t : List Int} {b : β} : t ∈ keysOf (dput d k b) ↔ t ∈ keysOf d ∨ t = k := by
  unfold dput keysOf
  split
  · next h =>
    have e : (d.map fun kv => if kv.1 = k then (kv.1, b) else kv).map (·.1) = d.map (·.1) := by
      rw [List.map_map]
      refine List.map_congr_left fun x _ => ?_
      show (if x.1 = k then (x.1, b) else x).1 = x.1
      split <;> rfl
    rw [e]
    refine ⟨.inl, fun z => z.elim id fun z => ?_⟩
    obtain ⟨x, hx, e⟩ := List.any_eq_true.mp h
    rw [z, ← of_decide_eq_true e]
    exact List.mem_map_of_mem hx
  · rw [List.map_append, List.mem_append]
    simp
theorem dget_isKey {β : Type} {d : List (List Int × β)} {k : List Int} : (dget d k).isSome = true ↔ k ∈ keysOf d := by
  constructor
  · intro h
    unfold dget at h
    rw [Option.isSome_map] at h
    obtain ⟨x, hx⟩ := Option.isSome_iff_exists.mp h
    have h1 := List.mem_of_find?_eq_some hx
    have h2 := List.find?_some hx
    unfold keysOf
    exact List.mem_map.mpr ⟨x, h1, of_decide_eq_true h2⟩
  · intro h
    obtain ⟨b, hb⟩ := dget_key h
    rw [hb]
    rfl
theorem q_lputK {d : List (List Int × Bool)} {p : List Int} (hd : d.length ≤ 100000) (hp : p.length ≤ 100) : RsP (m_lput d p) fun _ d' => d'.length ≤ d.length + p.length ∧ ∀ s, s ∈ keysOf d' ↔ s ∈ keysOf d ∨ ∃ c ∈ p, wo p c = s := by
  unfold m_lput M_lput
  walk_at "mi"
  refine loopP (fun i e => ∃ d', d'.length ≤ d.length + i ∧ (∀ s, s ∈ keysOf d' ↔ s ∈ keysOf d ∨ ∃ c ∈ p.take i, wo p c = s) ∧ e = (some d', some p, none, ())) ⟨d, by omega, by simp, rfl⟩ ?_ ?_
  · rintro i c e hc ⟨d', hd', hk, rfl⟩
    have hi := (List.getElem?_eq_some_iff.mp hc).1
    walk_at "mi"
    refine (q_lless (by omega)).imp ?_
    rintro r _ rfl
    rw [less_one]
    refine ⟨by omega, _, ?_, fun s => ?_, rfl⟩
    · have := dput_length d' (wo p c) true
      omega
    · rw [mem_dput, hk s, List.take_succ, hc, or_assoc]
      refine or_congr_right ?_
      constructor
      · rintro (⟨x, hx, e⟩ | e)
        · exact ⟨x, List.mem_append_left _ hx, e⟩
        · exact ⟨c, by simp, e.symm⟩
      · rintro ⟨x, hx, e⟩
        rcases List.mem_append.mp hx with z | z
        · exact .inl ⟨x, z, e⟩
        · simp at z
          subst z
          exact .inr e.symm
  · rintro e ⟨d', hd', hk, rfl⟩
    walk_at "mi"
    rw [List.take_length] at hk
    exact ⟨hd', hk⟩
theorem mem_rng {lo hi x : Int} : x ∈ rng lo hi ↔ lo ≤ x ∧ x < hi := by
  unfold rng
  rw [List.mem_map]
  constructor
  · rintro ⟨k, hk, rfl⟩
    rw [List.mem_range] at hk
    omega
  · exact fun ⟨h1, h2⟩ => ⟨(x - lo).toNat, by rw [List.mem_range]; omega, by omega⟩
theorem gIx_pcs {sh : List (List Int)} {c : Int} (h0 : 0 ≤ c) (h1 : c < sh.length) {Q : List Int → Prop} (q : Q (pcs sh c)) : OpP (gIx sh c) Q := by
  obtain ⟨j, rfl⟩ : ∃ j : Nat, c = (j : Int) := ⟨c.toNat, by omega⟩
  have hj : j < sh.length := by omega
  rw [show gIx sh (j : Int) = some sh[j] from atI_nat (List.getElem?_eq_getElem hj), op_some]
  unfold pcs at q
  rw [Int.toNat_natCast, List.getElem?_eq_getElem hj] at q
  exact q
/-- the sides of those ahead are there -/
def Ths (A : List (List Int)) (d : List (List Int × Bool)) : Prop := ∀ s, s ∈ keysOf d ↔ ∃ q ∈ A, ∃ c ∈ q, wo q c = s
theorem Ths.nil : Ths [] [] := fun s => by simp [keysOf]
theorem Ths.snoc {A : List (List Int)} {d d' : List (List Int × Bool)} {p : List Int} (h : Ths A d) (h' : ∀ s, s ∈ keysOf d' ↔ s ∈ keysOf d ∨ ∃ c ∈ p, wo p c = s) : Ths (A ++ [p]) d' := fun s => by
  rw [h', h s]
  constructor
  · rintro (⟨q, hq, h⟩ | h)
    · exact ⟨q, List.mem_append_left _ hq, h⟩
    · exact ⟨p, by simp, h⟩
  · rintro ⟨q, hq, h⟩
    rcases List.mem_append.mp hq with z | z
    · exact .inl ⟨q, z, h⟩
    · rw [List.mem_singleton.mp z] at h
      exact .inr h
theorem kd_br {n : Nat} {A : List (List Int)} {d : List (List Int × Bool)} {p : List Int} (hA : ∀ q ∈ A, Ri (n + 1) q) (hp : Ri (n + 1) p) (h : Ths A d) : p.filter (fun c => (dget d (wo p c)).isSome) = br A p := by
  unfold br
  refine List.filter_congr fun c hc => ?_
  rw [Bool.eq_iff_iff, dget_isKey, h, List.any_eq_true]
  constructor
  · rintro ⟨q, hq, x, hx, e⟩
    exact ⟨q, hq, by rw [← e]; exact wo_inn⟩
  · rintro ⟨q, hq, hi⟩
    obtain ⟨x, hx, e⟩ := side_of (hA q hq) (hp.wo hc) hi
    exact ⟨q, hq, x, hx, e.symm⟩
theorem q_lbringsF {n : Nat} {A : List (List Int)} {d : List (List Int × Bool)} {p : List Int} (hn : n < 100) (hA : ∀ q ∈ A, Ri (n + 1) q) (hp : Ri (n + 1) p) (h : Ths A d) (ha : A.length ≤ 1000) : RsP (m_lbrings A d p) fun o _ => (FitW A p → o = some (br A p)) ∧ (¬ FitW A p → o = none) := by
  have hpl := hp.1
  unfold m_lbrings M_lbrings
  walk_at "mi"
  refine ⟨by omega, lcP (fun c => (dget d (wo p c)).isSome) id (fun c hc => ?_) ?_⟩
  · walk_at "mi"
    refine (q_lless (by omega)).imp ?_
    rintro r _ rfl
    rw [less_one]
    refine ⟨rfl, ?_⟩
    split <;> trivial
  rw [List.map_id, kd_br hA hp h]
  have hl : (br A p).length ≤ 100 := by
    have : (br A p).length ≤ p.length := List.length_filter_le _ _
    omega
  have hfw : FitW A p ↔ ∀ q ∈ A, ∃ c ∈ br A p, c ∉ q := Iff.rfl
  generalize br A p = fd at *
  walk_at "mi"
  refine loopP (fun i e => e = (some A, some d, some p, some fd, none, none, ()) ∧ ∀ q ∈ A.take i, ∃ c ∈ fd, c ∉ q) ⟨rfl, by simp⟩ ?_ ?_
  · rintro i o e ho ⟨rfl, hq⟩
    have hom := List.mem_of_getElem? ho
    walk_at "mi"
    refine ⟨by omega, lcP (fun c => !decide (c ∈ o)) id (fun c hc => ?_) ?_⟩
    · walk_at "mi"
      split <;> trivial
    · walk_at "mi"
      refine iteI (fun z => ?_) fun z => ?_
      · refine ⟨fun hh => ?_, fun _ => trivial⟩
        obtain ⟨c, hc, hcn⟩ := hfw.mp hh o hom
        rw [List.map_id, List.filter_eq_nil_iff] at z
        exact absurd (by simpa using hcn) (z c hc)
      · intro q hqm
        rw [List.take_succ, ho] at hqm
        rcases List.mem_append.mp hqm with y | y
        · exact hq q y
        · simp at y
          subst y
          obtain ⟨c, hc⟩ := List.exists_mem_of_ne_nil _ z
          rw [List.map_id, List.mem_filter] at hc
          exact ⟨c, hc.1, by simpa using hc.2⟩
  · rintro e ⟨rfl, hq⟩
    rw [List.take_length] at hq
    walk_at "mi"
    exact ⟨fun _ => trivial, fun hh => absurd (hfw.mpr hq) hh⟩
theorem od_split {od : List Int} {i : Nat} {k : Int} (h : od[i]? = some k) : od = od.take i ++ k :: od.drop (i + 1) := by
  obtain ⟨hi, e⟩ := List.getElem?_eq_some_iff.mp h
  rw [← e, ← List.drop_eq_getElem_cons hi, List.take_append_drop]
theorem q_lrows {n : Nat} {sh : List (List Int)} {od : List Int} (hn : n < 100) (hs : ∀ p ∈ sh, Ri (n + 1) p) (hl : od.length ≤ 100) (ho : ∀ k ∈ od, 0 ≤ k ∧ k < sh.length) (hf : FL (od.map (pcs sh))) : RsP (m_lrows sh od) fun r _ => r = rwn sh [] od := by
  unfold m_lrows M_lrows
  walk_at "mi"
  refine loopP (fun i e => ∃ d, Ths ((od.take i).map (pcs sh)) d ∧ d.length ≤ 100 * i ∧ e = (some sh, some od, some (rwn sh [] (od.take i)), some ((od.take i).map (pcs sh)), some d, none, ())) ⟨[], .nil, by simp, rfl⟩ ?_ ?_
  · rintro i k e hk ⟨d, hd, hdl, rfl⟩
    have hi := (List.getElem?_eq_some_iff.mp hk).1
    obtain ⟨k0, k1⟩ := ho k (List.mem_of_getElem? hk)
    have hp := hs _ (pcs_mem k0 k1)
    have hpl := hp.1
    obtain ⟨f1, f2⟩ := hf.split (A := (od.take i).map (pcs sh)) (p := pcs sh k) (B := (od.drop (i + 1)).map (pcs sh)) (by rw [← List.map_cons, ← List.map_append, ← od_split hk])
    have hA : ∀ q ∈ (od.take i).map (pcs sh), Ri (n + 1) q := fun q hq => by
      obtain ⟨x, hx, rfl⟩ := List.mem_map.mp hq
      obtain ⟨x0, x1⟩ := ho x (List.mem_of_mem_take hx)
      exact hs _ (pcs_mem x0 x1)
    have ht : od.take (i + 1) = od.take i ++ [k] := by rw [List.take_succ, hk]; rfl
    have hal : ((od.take i).map (pcs sh)).length = i := by rw [List.length_map, List.length_take]; omega
    have hrl : (rwn sh [] (od.take i)).length = i := by rw [rwn_len, List.length_take]; omega
    have er : rwn sh [] (od.take (i + 1)) = rwn sh [] (od.take i) ++ [(k, br ((od.take i).map (pcs sh)) (pcs sh k))] := by
      rw [ht, rwn_app]
      rfl
    have ea : (od.take (i + 1)).map (pcs sh) = (od.take i).map (pcs sh) ++ [pcs sh k] := by rw [ht, List.map_append]; rfl
    generalize (od.take i).map (pcs sh) = A at *
    generalize rwn sh [] (od.take i) = R at *
    walk_at "mi"
    refine gIx_pcs k0 k1 ((q_lbringsF hn hA hp hd (by omega)).imp ?_)
    rintro o _ ⟨o1, _⟩
    rw [o1 f2]
    walk_at "mi"
    refine ⟨by omega, gIx_pcs k0 k1 ⟨by omega, gIx_pcs k0 k1 ((q_lputK (by omega) (by omega)).imp ?_)⟩⟩
    rintro _ d' ⟨e1, e2⟩
    refine ⟨d', ?_, by omega, by rw [er, ea]⟩
    rw [ea]
    exact hd.snoc e2
  · rintro e ⟨d, hd, hdl, rfl⟩
    rw [List.take_length]
    walk_at "mi"
/-- numbers of pieces that fit, one behind the other -/
structure Og (sh : List (List Int)) (od : List Int) : Prop where
  rg : ∀ k ∈ od, 0 ≤ k ∧ k < sh.length
  fl : FL (od.map (pcs sh))
theorem Og.nd {sh : List (List Int)} {od : List Int} (h : Og sh od) : od.Nodup := (List.pairwise_map.mp h.fl.nd).imp fun h e => h (congrArg _ e)
theorem rng_nodup (n : Nat) : (rng 0 n).Nodup := (List.nodup_range).map _ fun a b hab e => hab (by omega)
theorem Og.le {sh : List (List Int)} {od : List Int} (h : Og sh od) : od.length ≤ sh.length := by
  have := h.nd.length_le_of_subset (l₂ := rng 0 sh.length) fun y hy => mem_rng.mpr (h.rg y hy)
  rw [rng_length] at this
  omega
theorem Og.perm {sh : List (List Int)} {od : List Int} (h : Og sh od) (hl : od.length = sh.length) : od.Perm (rng 0 sh.length) := by
  refine (List.perm_ext_iff_of_nodup h.nd (rng_nodup _)).mpr fun x => ⟨fun hx => mem_rng.mpr (h.rg x hx), fun hx => ?_⟩
  apply Classical.byContradiction
  intro z
  have h2 : (x :: od).Nodup := List.nodup_cons.mpr ⟨z, h.nd⟩
  have h3 := h2.length_le_of_subset (l₂ := rng 0 sh.length) fun y hy => by
    rcases List.mem_cons.mp hy with rfl | hy
    · exact hx
    · exact mem_rng.mpr (h.rg y hy)
  rw [List.length_cons, rng_length] at h3
  omega
theorem pcs_rng (sh : List (List Int)) : (rng 0 sh.length).map (pcs sh) = sh := by
  refine List.ext_getElem? fun i => ?_
  unfold rng
  rw [List.map_map, List.getElem?_map]
  by_cases hi : i < sh.length
  · rw [List.getElem?_range (by omega), List.getElem?_eq_getElem hi]
    show some (pcs sh (0 + (i : Int))) = _
    unfold pcs
    rw [Int.zero_add, Int.toNat_natCast, List.getElem?_eq_getElem hi]
    rfl
  · rw [List.getElem?_eq_none (by simp; omega), List.getElem?_eq_none (by omega)]
    rfl
theorem Og.prm {sh : List (List Int)} {od : List Int} (h : Og sh od) (hl : od.length = sh.length) : (od.map (pcs sh)).Perm sh := by
  have := (h.perm hl).map (pcs sh)
  rwa [pcs_rng] at this
theorem rng_map {α : Type} (f : Int → α) (m : Nat) : (rng 0 (m : Int)).map f = (List.range m).map fun j : Nat => f (j : Int) := by
  unfold rng
  rw [List.map_map, show ((m : Int) - 0).toNat = m by omega]
  refine List.map_congr_left fun j _ => ?_
  show f (0 + (j : Int)) = _
  rw [Int.zero_add]
theorem pcs_nat {ps : List (List Int)} {j : Nat} (h : j < ps.length) : pcs ps (j : Int) = ps[j] := by
  unfold pcs
  rw [Int.toNat_natCast, List.getElem?_eq_getElem h]
  rfl
theorem order_rng {spots : List Int} {n : Nat} (h : spots.Perm ((List.range n).map fun (k : Nat) => (k : Int))) : spots.Perm (rng 0 n) := by
  have := rng_map (fun k => k) n
  rw [List.map_id'] at this
  rw [this]
  exact h
theorem srt_ri {xs : List Int} (h : xs.Nodup) : Ri xs.length (srt xs) := ⟨srt_length xs, by
  have h1 := srt_pw xs
  have h2 := srt_nodup h
  exact (h1.and h2).imp fun ⟨a, b⟩ => by omega⟩
theorem Og.snoc {sh : List (List Int)} {od : List Int} {k : Int} (h : Og sh od) (k0 : 0 ≤ k) (k1 : k < sh.length) (hf : FitW (od.map (pcs sh)) (pcs sh k)) : Og sh (od ++ [k]) := ⟨fun x hx => by
  rcases List.mem_append.mp hx with z | z
  · exact h.rg x z
  · rw [List.mem_singleton.mp z]
    exact ⟨k0, k1⟩, by rw [List.map_append]; exact .snoc h.fl hf⟩
/-- a shape and an order of it -/
structure Pp (n : Nat) (sh : List (List Int)) (od : List Int) : Prop where
  ri : ∀ p ∈ sh, Ri (n + 1) p
  n5 : n ≤ 5
  l1 : 1 ≤ sh.length
  l40 : sh.length ≤ 40
  og : Og sh od
  ol : od.length = sh.length
theorem Pp.prm {n : Nat} {sh : List (List Int)} {od : List Int} (h : Pp n sh od) : (od.map (pcs sh)).Perm sh := h.og.prm h.ol
theorem Pp.rio {n : Nat} {sh : List (List Int)} {od : List Int} (h : Pp n sh od) : ∀ p ∈ od.map (pcs sh), Ri (n + 1) p := fun p hp => h.ri p (h.prm.mem_iff.mp hp)
theorem Pp.mem {n : Nat} {sh : List (List Int)} {od : List Int} (h : Pp n sh od) {k : Int} : k ∈ od ↔ 0 ≤ k ∧ k < sh.length := by rw [(h.og.perm h.ol).mem_iff, mem_rng]
def les (p f : List Int) : List Int := p.filter fun x => !decide (x ∈ f)
theorem mem_les {p f : List Int} {x : Int} : x ∈ les p f ↔ x ∈ p ∧ x ∉ f := by simp [les]
theorem lk_br {A : List (List Int)} {f p : List Int} (hf : inn f p = true) : br ((A.filter (inn f)).map fun q => les q f) (les p f) = les (br A p) f := by
  unfold br les
  rw [List.filter_filter, List.filter_filter]
  refine List.filter_congr fun c hc => ?_
  rw [Bool.eq_iff_iff, Bool.and_eq_true_iff, Bool.and_eq_true_iff, List.any_eq_true, List.any_eq_true]
  constructor
  · rintro ⟨⟨q', hq', hi⟩, hcf⟩
    obtain ⟨q, hq, rfl⟩ := List.mem_map.mp hq'
    obtain ⟨hq, hfq⟩ := List.mem_filter.mp hq
    refine ⟨hcf, q, hq, inn_iff.mpr fun x hx => ?_⟩
    obtain ⟨h1, h2⟩ := wo_mem.mp hx
    by_cases hxf : x ∈ f
    · exact inn_iff.mp hfq x hxf
    · exact (List.mem_filter.mp (inn_iff.mp hi x (wo_mem.mpr ⟨List.mem_filter.mpr ⟨h1, by simpa using hxf⟩, h2⟩))).1
  · rintro ⟨hcf, q, hq, hi⟩
    have hcf' : c ∉ f := by simpa using hcf
    refine ⟨⟨_, List.mem_map.mpr ⟨q, List.mem_filter.mpr ⟨hq, inn_iff.mpr fun x hx => inn_iff.mp hi x (wo_mem.mpr ⟨inn_iff.mp hf x hx, fun e => hcf' (e ▸ hx)⟩)⟩, rfl⟩, inn_iff.mpr fun x hx => ?_⟩, hcf⟩
    obtain ⟨h1, h2⟩ := wo_mem.mp hx
    obtain ⟨h3, h4⟩ := List.mem_filter.mp h1
    exact List.mem_filter.mpr ⟨inn_iff.mp hi x (wo_mem.mpr ⟨h3, h2⟩), h4⟩
theorem lk_fit {A : List (List Int)} {f p : List Int} (hf : inn f p = true) (h : FitW A p) : FitW ((A.filter (inn f)).map fun q => les q f) (les p f) := fun q' hq' => by
  obtain ⟨q, hq, rfl⟩ := List.mem_map.mp hq'
  obtain ⟨hq, hfq⟩ := List.mem_filter.mp hq
  obtain ⟨c, hc, hcq⟩ := h q hq
  rw [lk_br hf]
  exact ⟨c, mem_les.mpr ⟨hc, fun z => hcq (inn_iff.mp hfq c z)⟩, fun z => hcq (mem_les.mp z).1⟩
theorem lk_fl {f : List Int} {ps : List (List Int)} (h : FL ps) : FL ((ps.filter (inn f)).map fun q => les q f) := by
  induction h with
  | nil => exact .nil
  | @snoc A p h1 h2 ih =>
    rw [List.filter_append, List.map_append, List.filter_cons, List.filter_nil]
    by_cases hf : inn f p = true
    · rw [if_pos hf]
      exact .snoc ih (lk_fit hf h2)
    · rw [if_neg hf]
      simpa using ih
def held (sh : List (List Int)) (f : List Int) : List Int := (rng 0 sh.length).filter fun k => inn f (pcs sh k)
theorem mem_held {sh : List (List Int)} {f : List Int} {k : Int} : k ∈ held sh f ↔ (0 ≤ k ∧ k < sh.length) ∧ inn f (pcs sh k) = true := by
  unfold held
  rw [List.mem_filter, mem_rng]
def lnk (sh : List (List Int)) (f : List Int) : List (List Int) := (held sh f).map fun k => les (pcs sh k) f
theorem held_at {sh : List (List Int)} {f : List Int} {k : Int} (h : k ∈ held sh f) : pcs (lnk sh f) (((held sh f).idxOf k : Nat) : Int) = les (pcs sh k) f ∧ (held sh f).idxOf k < (held sh f).length := by
  have hlt := List.idxOf_lt_length_iff.mpr h
  refine ⟨?_, hlt⟩
  unfold lnk
  rw [pcs_nat (by rw [List.length_map]; exact hlt), List.getElem_map, List.getElem_idxOf]
theorem les_ri {n : Nat} {p f : List Int} (hp : Ri (n + 1) p) (hf : Up f) (hi : inn f p = true) (hl : f.length ≤ n) : Ri (n - f.length + 1) (les p f) := ⟨by
  have h1 := len_split p f
  have e : p.filter (fun x => decide (x ∈ f)) = f := rise_eq (hp.2.filter _) hf fun z => by
    rw [List.mem_filter, decide_eq_true_iff]
    exact ⟨fun h => h.2, fun h => ⟨inn_iff.mp hi z h, h⟩⟩
  rw [e, hp.1] at h1
  unfold les
  omega, hp.2.filter _⟩
/-- the order carried to a link -/
def lod (sh : List (List Int)) (f : List Int) (od : List Int) : List Int := (od.filter fun k => inn f (pcs sh k)).map fun k => (((held sh f).idxOf k : Nat) : Int)
theorem Pp.lnk {n : Nat} {sh : List (List Int)} {od f : List Int} (h : Pp n sh od) (hf : Up f) (hl : f.length ≤ n) (hne : ∃ p ∈ sh, inn f p = true) : Pp (n - f.length) (Ws.lnk sh f) (lod sh f od) := by
  have n5 := h.n5
  have l40 := h.l40
  have hm : ∀ k ∈ od.filter (fun k => inn f (pcs sh k)), k ∈ held sh f := fun k hk => by
    rw [List.mem_filter] at hk
    exact mem_held.mpr ⟨h.mem.mp hk.1, hk.2⟩
  have hpl : (od.filter fun k => inn f (pcs sh k)).length = (held sh f).length := ((h.og.perm h.ol).filter _).length_eq
  have hll : (Ws.lnk sh f).length = (held sh f).length := List.length_map _
  refine ⟨fun p hp => ?_, by omega, ?_, ?_, ⟨fun x hx => ?_, ?_⟩, ?_⟩
  · obtain ⟨k, hk, rfl⟩ := List.mem_map.mp hp
    obtain ⟨⟨k0, k1⟩, hi⟩ := mem_held.mp hk
    exact les_ri (h.ri _ (pcs_mem k0 k1)) hf hi hl
  · obtain ⟨p, hp, hi⟩ := hne
    obtain ⟨j, hj, rfl⟩ := List.getElem_of_mem hp
    have : (j : Int) ∈ held sh f := mem_held.mpr ⟨⟨by omega, by omega⟩, by rw [pcs_nat hj]; exact hi⟩
    have := List.length_pos_of_mem this
    omega
  · have : (held sh f).length ≤ (rng 0 (sh.length : Int)).length := List.length_filter_le _ _
    rw [rng_length] at this
    omega
  · obtain ⟨k, hk, rfl⟩ := List.mem_map.mp hx
    have := (held_at (hm k hk)).2
    omega
  · have e : (lod sh f od).map (pcs (Ws.lnk sh f)) = ((od.map (pcs sh)).filter (inn f)).map fun q => les q f := by
      unfold lod
      rw [List.map_map, List.filter_map, List.map_map]
      exact List.map_congr_left fun k hk => (held_at (hm k hk)).1
    rw [e]
    exact lk_fl h.og.fl
  · unfold lod
    rw [List.length_map, hpl, hll]
theorem rwn_from {sh sh' : List (List Int)} : ∀ {od od' : List Int} {A : List (List Int)}, od'.map (pcs sh') = od.map (pcs sh) → (rwn sh' A od').map (·.2) = (rwn sh A od).map (·.2)
  | [], [], A, _ => rfl
  | [], _ :: _, A, h => by simp at h
  | _ :: _, [], A, h => by simp at h
  | k :: od, j :: od', A, h => by
    rw [List.map_cons, List.map_cons] at h
    obtain ⟨h1, h2⟩ := List.cons.inj h
    rw [rwn, rwn, List.map_cons, List.map_cons, h1, rwn_from h2]
theorem rwn_take {sh : List (List Int)} : ∀ {od : List Int} {A : List (List Int)} {m : Nat}, (rwn sh A od).take m = rwn sh A (od.take m)
  | [], A, m => by simp [rwn]
  | k :: od, A, 0 => rfl
  | k :: od, A, m + 1 => by rw [rwn, List.take_succ_cons, List.take_succ_cons, rwn, rwn_take]
theorem FL.take {ps : List (List Int)} (h : FL ps) (m : Nat) : FL (ps.take m) := by
  by_cases hm : m < ps.length
  · have e : ps = ps.take m ++ ps[m] :: ps.drop (m + 1) := by rw [← List.drop_eq_getElem_cons hm, List.take_append_drop]
    exact (h.split e).1
  · rw [List.take_of_length_le (by omega)]
    exact h
theorem Pp.begun {n : Nat} {sh : List (List Int)} {od : List Int} (h : Pp n sh od) {m : Nat} (m1 : 1 ≤ m) (m2 : m ≤ sh.length) : Pp n ((od.take m).map (pcs sh)) (rng 0 m) ∧ rwn ((od.take m).map (pcs sh)) [] (rng 0 m) = (enumF ((rwn sh [] od).take m)).map fun r => (r.1, r.2.2) := by
  have hol := h.ol
  have l40 := h.l40
  have hlen : ((od.take m).map (pcs sh)).length = m := by rw [List.length_map, List.length_take]; omega
  have hmap : (rng 0 (m : Int)).map (pcs ((od.take m).map (pcs sh))) = (od.take m).map (pcs sh) := by
    have := pcs_rng ((od.take m).map (pcs sh))
    rw [hlen] at this
    exact this
  refine ⟨⟨fun p hp => ?_, h.n5, by omega, by omega, ⟨fun k hk => ?_, ?_⟩, ?_⟩, ?_⟩
  · refine h.rio p ?_
    rw [List.map_take] at hp
    exact List.mem_of_mem_take hp
  · have := mem_rng.mp hk
    omega
  · rw [hmap, List.map_take]
    exact h.og.fl.take m
  · rw [rng_length]
    omega
  · have e1 := rwn_fst ((od.take m).map (pcs sh)) (rng 0 m) []
    have e2 := rwn_from (sh := sh) (sh' := (od.take m).map (pcs sh)) (od := od.take m) (od' := rng 0 m) (A := []) hmap
    have l1 : (rwn ((od.take m).map (pcs sh)) [] (rng 0 (m : Int))).length = m := by rw [rwn_len, rng_length]; omega
    have l2 : (rwn sh [] (od.take m)).length = m := by rw [rwn_len, List.length_take]; omega
    rw [rwn_take]
    refine List.ext_getElem? fun i => ?_
    by_cases hi : i < m
    · have f1 := congrArg (fun l => l[i]?) e1
      have f2 := congrArg (fun l => l[i]?) e2
      simp only [List.getElem?_map] at f1 f2
      rw [List.getElem?_map]
      have hl3 : (enumF (rwn sh [] (od.take m))).length = m := by rw [enumF_length, l2]
      rw [List.getElem?_eq_getElem (show i < (rwn ((od.take m).map (pcs sh)) [] (rng 0 (m : Int))).length by omega)] at f1 f2 ⊢
      rw [List.getElem?_eq_getElem (show i < (rwn sh [] (od.take m)).length by omega)] at f2
      have hE : (enumF (rwn sh [] (od.take m)))[i]? = some ((enumF (rwn sh [] (od.take m)))[i]'(by omega)) := List.getElem?_eq_getElem _
      obtain ⟨g1, g2⟩ := enumF_get hE
      rw [hE, Option.map_some]
      rw [List.getElem?_eq_getElem (show i < (rwn sh [] (od.take m)).length by omega)] at g2
      have g2 := Option.some.inj g2
      rw [Option.map_some, Option.map_some] at f2
      have f2 := Option.some.inj f2
      rw [Option.map_some] at f1
      have f3 : (rng 0 (m : Int))[i]? = some (i : Int) := by
        unfold rng
        rw [List.getElem?_map, List.getElem?_range (by omega), Option.map_some, Int.zero_add]
      rw [f3] at f1
      have f1 := Option.some.inj f1
      congr 1
      refine Prod.ext ?_ ?_
      · rw [f1, g1]
      · rw [f2, g2]
    · rw [List.getElem?_eq_none (by omega), List.getElem?_eq_none (by rw [List.length_map, enumF_length, l2]; omega)]
theorem q_lnumbered {st : List Int × Int × Int} {n : Nat} {ps : List (List Int)} (h : PenOk st) (hr : ∀ p ∈ ps, Ri (n + 1) p) (n5 : n ≤ 5) (l1 : 1 ≤ ps.length) (l40 : ps.length ≤ 40) (hf : FL ps) :
    RsP (m_lnumbered st ps) fun r st' => (∃ od, Pp n r.1 od ∧ r.2 = rwn r.1 [] od) ∧ (∀ p ∈ r.1, p ∈ ps) ∧ PenOk st' := by
  unfold m_lnumbered M_lnumbered
  walk_at "mi"
  refine (q_lorder h (by omega)).imp ?_
  rintro spots st1 ⟨hs, h1⟩
  have hsp := order_rng hs
  have hsl : spots.length = ps.length := by rw [hsp.length_eq, rng_length]; omega
  have hmem : ∀ {k : Int}, k ∈ spots ↔ 0 ≤ k ∧ k < ps.length := fun {k} => by rw [hsp.mem_iff, mem_rng]
  refine ⟨by omega, lcM (pcs ps) (fun k hk => ?_) ?_⟩
  · obtain ⟨k0, k1⟩ := hmem.mp hk
    walk_at "mi"
    exact gIx_pcs k0 k1 rfl
  have hpm : (spots.map (pcs ps)).Perm ps := by
    have := hsp.map (pcs ps)
    rwa [pcs_rng] at this
  have hat : ∀ {k : Int}, 0 ≤ k → k < ps.length → pcs (spots.map (pcs ps)) ((spots.idxOf k : Nat) : Int) = pcs ps k ∧ spots.idxOf k < spots.length := fun {k} k0 k1 => by
    have hlt : spots.idxOf k < spots.length := List.idxOf_lt_length_iff.mpr (hmem.mpr ⟨k0, k1⟩)
    refine ⟨?_, hlt⟩
    rw [pcs_nat (by rw [List.length_map]; exact hlt), List.getElem_map, List.getElem_idxOf]
  have hod : ((rng 0 ps.length).map fun k => ((spots.idxOf k : Nat) : Int)).map (pcs (spots.map (pcs ps))) = ps := by
    rw [List.map_map]
    conv => rhs; rw [← pcs_rng ps]
    refine List.map_congr_left fun k hk => ?_
    obtain ⟨k0, k1⟩ := mem_rng.mp hk
    exact (hat k0 k1).1
  have hog : Og (spots.map (pcs ps)) ((rng 0 ps.length).map fun k => ((spots.idxOf k : Nat) : Int)) := ⟨fun x hx => by
    obtain ⟨k, hk, rfl⟩ := List.mem_map.mp hx
    obtain ⟨k0, k1⟩ := mem_rng.mp hk
    have := (hat k0 k1).2
    rw [List.length_map]
    omega, by rw [hod]; exact hf⟩
  have hol : ((rng 0 (ps.length : Int)).map fun k => ((spots.idxOf k : Nat) : Int)).length = ps.length := by rw [List.length_map, rng_length]; omega
  have hcd : Pp n (spots.map (pcs ps)) ((rng 0 ps.length).map fun k => ((spots.idxOf k : Nat) : Int)) := ⟨fun p hp => hr p (hpm.mem_iff.mp hp), n5, by rw [hpm.length_eq]; exact l1, by rw [hpm.length_eq]; exact l40, hog, by rw [hol, hpm.length_eq]⟩
  walk_at "mi"
  refine ⟨by simp [bigI]; omega, by rw [rng_length]; omega, lcM (fun k => ((spots.idxOf k : Nat) : Int)) (fun k hk => ?_) ?_⟩
  · have := mem_rng.mp hk
    walk_at "mi"
    unfold gIdx
    rw [if_pos (hmem.mpr this), op_some]
  walk_at "mi"
  refine (q_lrows (n := n) (by omega) hcd.ri (by omega) hog.rg hog.fl).imp ?_
  rintro _ _ rfl
  exact ⟨⟨_, hcd, rfl⟩, fun p hp => hpm.mem_iff.mp hp, h1⟩
theorem Ths.put {p : List Int} {d : List (List Int × Bool)} (h : ∀ s, s ∈ keysOf d ↔ s ∈ keysOf ([] : List (List Int × Bool)) ∨ ∃ c ∈ p, wo p c = s) : Ths [p] d := (Ths.nil.snoc h)
theorem q_lgrown {st : List Int × Int × Int} {n most : Nat} {names : List Int} (h : PenOk st) (hn : names.Nodup) (n5 : n ≤ 5) (hs : n + 1 ≤ names.length) (hl : names.length ≤ 100) (m1 : 1 ≤ most) (m40 : most ≤ 40) :
    RsP (m_lgrown st names ((n + 1 : Nat) : Int) (most : Int)) fun ps st' => ((∀ p ∈ ps, Ri (n + 1) p) ∧ 1 ≤ ps.length ∧ ps.length ≤ most ∧ FL ps ∧ ∀ p ∈ ps, ∀ x ∈ p, x ∈ names) ∧ PenOk st' := by
  unfold m_lgrown M_lgrown
  walk_at "mi"
  rw [cut_to hs]
  have htl : (names.take (n + 1)).length = n + 1 := by rw [List.length_take]; omega
  have hp0 : Ri (n + 1) (srt (names.take (n + 1))) := by
    have := srt_ri (hn.sublist (List.take_sublist (n + 1) names))
    rwa [htl] at this
  have hin0 : ∀ x ∈ srt (names.take (n + 1)), x ∈ names := fun x hx => List.mem_of_mem_take (srt_mem.mp hx)
  generalize srt (names.take (n + 1)) = p0 at *
  have hp0l := hp0.1
  refine ⟨?_, op_head (sh := [p0]) (by simp) ?_⟩
  · omega
  refine (q_lputK (by simp) (by show p0.length ≤ 100; omega)).imp ?_
  rintro _ d1 ⟨hd1, hk1⟩
  have hT1 : Ths [p0] d1 := .put hk1
  have hd1 : d1.length ≤ 100 := by simp at hd1; omega
  refine (q_ltake h (by omega) (by omega)).imp ?_
  rintro t st1 ⟨⟨t0, t1⟩, h1⟩
  obtain ⟨T, rfl⟩ : ∃ T : Nat, t = (T : Int) := ⟨t.toNat, by omega⟩
  refine ⟨by simp [bigI]; omega, ?_⟩
  refine loopR (n := T) rfl (fun i e => ∃ ps d st, (∀ p ∈ ps, Ri (n + 1) p) ∧ 1 ≤ ps.length ∧ ps.length ≤ most ∧ FL ps ∧ (∀ p ∈ ps, ∀ x ∈ p, x ∈ names) ∧ Ths ps d ∧ d.length ≤ 100 * (i + 1) ∧ PenOk st ∧ e = (some st, some names, some ((n + 1 : Nat) : Int), some (most : Int), some ps, some d, none, none, none, none, none, ())) ⟨[p0], d1, st1, fun p hp => by rw [List.mem_singleton.mp hp]; exact hp0, by simp, by simpa using m1, .snoc (A := []) .nil fun q hq => absurd hq List.not_mem_nil, fun p hp => by rw [List.mem_singleton.mp hp]; exact hin0, hT1, by omega, h1, rfl⟩ ?_ ?_
  · rintro i e hi ⟨ps, d, st2, k1, k2, k3, k4, k5, k6, k7, h2, rfl⟩
    walk_at "mi"
    refine (q_ltake h2 (by omega) (by omega)).imp ?_
    rintro r st3 ⟨⟨r0, r1⟩, h3⟩
    refine op_ix r0 r1 fun base hb => ?_
    have hbr := k1 base hb
    have hbl := hbr.1
    refine (q_ltake h3 (by omega) (by omega)).imp ?_
    rintro r' st4 ⟨⟨r0', r1'⟩, h4⟩
    refine op_ix r0' (by omega) fun out ho => ?_
    refine (q_ltake h4 (by omega) (by omega)).imp ?_
    rintro r2 st5 ⟨⟨r20, r21⟩, h5⟩
    refine op_ix r20 r21 fun co hco => ?_
    refine (q_lless (by omega)).imp ?_
    rintro _ _ rfl
    rw [less_one]
    have hwl := wo_len hbr.nd ho
    have hcl := List.length_append (as := wo base out) (bs := [co])
    rw [List.length_singleton] at hcl
    refine ⟨by omega, by omega, ?_⟩
    refine iteI (fun z => ?_) fun _ => ⟨ps, d, st5, k1, k2, k3, k4, k5, k6, by omega, h5, rfl⟩
    have z : co ∉ base := by simpa using z
    have hnd : (wo base out ++ [co]).Nodup := List.nodup_append.mpr ⟨hbr.nd.filter _, by simp, fun x hx y hy e => z (by rw [List.mem_singleton.mp hy] at e; exact e ▸ (wo_mem.mp hx).1)⟩
    have hpr := srt_ri hnd
    rw [hcl, hwl, hbl] at hpr
    have hpin : ∀ x ∈ srt (wo base out ++ [co]), x ∈ names := fun x hx => by
      rcases List.mem_append.mp (srt_mem.mp hx) with z | z
      · exact k5 base hb x (wo_mem.mp z).1
      · rw [List.mem_singleton.mp z]; exact hco
    generalize srt (wo base out ++ [co]) = p at *
    have hpl := hpr.1
    refine iteI (fun y => ?_) fun _ => ⟨ps, d, st5, k1, k2, k3, k4, k5, k6, by omega, h5, rfl⟩
    refine (q_lbringsF (n := n) (by omega) k1 hpr k6 (by omega)).imp ?_
    rintro o _ ⟨o1, o2⟩
    by_cases hf : FitW ps p
    · rw [o1 hf]
      refine iteI (fun _ => ?_) fun z => by simp at z
      refine ⟨by omega, (q_lputK (by omega) (by omega)).imp ?_⟩
      rintro _ d' ⟨e1, e2⟩
      refine ⟨ps ++ [p], d', st5, fun q hq => ?_, by simp, by rw [List.length_append, List.length_singleton]; omega, .snoc k4 hf, fun q hq => ?_, k6.snoc e2, by omega, h5, rfl⟩
      · rcases List.mem_append.mp hq with z | z
        · exact k1 q z
        · rw [List.mem_singleton.mp z]; exact hpr
      · rcases List.mem_append.mp hq with z | z
        · exact k5 q z
        · rw [List.mem_singleton.mp z]; exact hpin
    · rw [o2 hf]
      refine iteI (fun z => by simp at z) fun _ => ?_
      exact ⟨ps, d, st5, k1, k2, k3, k4, k5, k6, by omega, h5, rfl⟩
  · rintro e ⟨ps, d, st2, k1, k2, k3, k4, k5, k6, k7, h2, rfl⟩
    walk_at "mi"
    exact ⟨⟨k1, k2, k3, k4, k5⟩, h2⟩
def num (t : Th) (lo hi : Int) : Bool := match t with
  | .int k => decide (lo ≤ k ∧ k ≤ hi)
  | _ => false
theorem num_iff {t : Th} {lo hi : Int} : num t lo hi = true ↔ ∃ k, t = .int k ∧ lo ≤ k ∧ k ≤ hi := by
  unfold num
  cases t <;> simp
theorem q_is_from {t : Th} {lo hi : Int} : RsP (m_is_from t lo hi) fun b _ => b = num t lo hi := by
  unfold m_is_from M_is_from
  walk_at "mv"
  cases t with
  | int k =>
    rw [show isInt (.int k) = true from rfl, show isBl (.int k) = false from rfl, show asI (.int k) = some k from rfl]
    simp only [op_some]
    by_cases h : lo ≤ k
    · simp [h, num]
    · simp [h, num]
  | _ => simp [isInt, isBl, num]
theorem q_lis_number {t : Th} {lo hi : Int} : RsP (m_lis_number t lo hi) fun b _ => b = num t lo hi := by
  unfold m_lis_number M_lis_number
  walk_at "mv"
  cases t with
  | int k =>
    rw [show isInt (.int k) = true from rfl, show isBl (.int k) = false from rfl, show asI (.int k) = some k from rfl]
    simp only [op_some]
    by_cases h : lo ≤ k
    · simp [h, num]
    · simp [h, num]
  | _ => simp [isInt, isBl, num]
def Ok (sh : List (List Int)) (ns : List Th) (ks : List Int) : Prop := ns = ks.map .int ∧ ks.Nodup ∧ ∀ k ∈ ks, 0 ≤ k ∧ k < (sh.length : Int)
theorem ok_bad {sh : List (List Int)} {ns : List Th} {ks0 : List Int} {i : Nat} {t : Th} (h1 : ns.take i = ks0.map .int) (h2 : ns[i]? = some t) (h3 : ∀ k, t = .int k → 0 ≤ k → k < sh.length → k ∈ ks0) : ¬ ∃ ks, Ok sh ns ks := by
  rintro ⟨ks, rfl, hn, hr⟩
  have inj : ∀ a b : Int, Th.int a = Th.int b → a = b := fun a b h => by cases h; rfl
  rw [← List.map_take] at h1
  have h1 : ks.take i = ks0 := (List.map_inj_right fun a b h => inj a b h).mp h1
  subst h1
  rw [List.getElem?_map] at h2
  cases e : ks[i]? with
  | none => rw [e] at h2; cases h2
  | some k =>
    rw [e] at h2
    have h2 : t = .int k := by simpa using h2.symm
    have hk := hr k (List.mem_of_getElem? e)
    have := h3 k h2 hk.1 hk.2
    obtain ⟨hi, rfl⟩ := List.getElem?_eq_some_iff.mp e
    obtain ⟨j, hj, ej⟩ := List.mem_iff_getElem.mp this
    rw [List.getElem_take] at ej
    rw [List.length_take] at hj
    have := (List.getElem_inj hn).mp ej
    omega
def Out (sh : List (List Int)) (ns : List Th) (out : List (List Int) ⊕ Str) : Prop := (∃ ks, Ok sh ns ks ∧ ks ≠ [] ∧ out = .inl (ks.map (pcs sh))) ∨ ((ns = [] ∨ ¬ ∃ ks, Ok sh ns ks) ∧ out = .inr "NoPiece")
theorem ok_one {sh : List (List Int)} {ns : List Th} {ks ks' : List Int} (h : Ok sh ns ks) (h' : Ok sh ns ks') : ks = ks' := by
  have := h.1.symm.trans h'.1
  exact (List.map_inj_right fun a b h => by cases h; rfl).mp this
theorem q_part {sh : List (List Int)} {ns : List Th} {out : List (List Int) ⊕ Str} (hl : ns.length ≤ 1000) (ho : Out sh ns out) : RxP (fun c => c.fld = none ∧ c.name ∈ xNs ∧ out = .inr c.name) (m_part sh ns) fun r _ => out = .inl r := by
  unfold m_part M_part
  walk_at "mv"
  have e0 : gEqN ns ([] : List Th) = some (decide (ns = [])) := by cases ns <;> rfl
  rw [e0, op_some]
  by_cases hn : ns = []
  · rw [if_pos (by simpa using hn)]
    refine ⟨by decide, ?_⟩
    rcases ho with ⟨ks, hk, h2, _⟩ | ⟨_, rfl⟩
    · rw [hn] at hk
      exact absurd (List.map_eq_nil_iff.mp hk.1.symm) h2
    · rfl
  rw [if_neg (by simpa using hn)]
  refine loopX (fun i e => ∃ ks : List Int, ns.take i = ks.map .int ∧ ks.Nodup ∧ (∀ k ∈ ks, 0 ≤ k ∧ k < (sh.length : Int)) ∧ e = (some sh, some ns, some ks, none, ())) ⟨[], rfl, by simp, by simp, rfl⟩ ?_ ?_
  · rintro i t e ht ⟨ks, h1, h2, h3, rfl⟩
    walk_at "mv"
    refine q_is_from.imp ?_
    rintro b _ rfl
    have bad : (¬ ∃ ks, Ok sh ns ks) → out = .inr "NoPiece" := fun z => by
      rcases ho with ⟨ks, hk, _⟩ | ⟨_, e⟩
      · exact absurd ⟨ks, hk⟩ z
      · exact e
    cases hb : num t 0 ((sh.length : Int) - 1) with
    | false =>
      rw [if_pos (by rfl)]
      refine ⟨by decide, bad (ok_bad h1 ht fun k e k0 k1 => ?_)⟩
      have : num t 0 ((sh.length : Int) - 1) = true := num_iff.mpr ⟨k, e, k0, by omega⟩
      rw [hb] at this
      cases this
    | true =>
      obtain ⟨k, rfl, k0, k1⟩ := num_iff.mp hb
      rw [if_neg (by simp), show asI (.int k) = some k from rfl, op_some]
      by_cases hk : k ∈ ks
      · rw [if_pos hk]
        exact ⟨by decide, bad (ok_bad h1 ht fun k' e _ _ => by cases e; exact hk)⟩
      · rw [if_neg hk, op_some]
        have hkl : ks.length ≤ ns.length := by
          have := congrArg List.length h1
          rw [List.length_take, List.length_map] at this
          omega
        refine ⟨by omega, ks ++ [k], ?_, ?_, ?_, rfl⟩
        · rw [List.take_succ, ht, h1]
          simp
        · exact List.nodup_append.mpr ⟨h2, by simp, fun a ha b hb e => hk (by rw [← List.mem_singleton.mp hb, ← e]; exact ha)⟩
        · intro x hx
          rcases List.mem_append.mp hx with h | h
          · exact h3 x h
          · rw [List.mem_singleton.mp h]
            omega
  · rintro e ⟨ks, h1, h2, h3, rfl⟩
    rw [List.take_length] at h1
    have hok : Ok sh ns ks := ⟨h1, h2, h3⟩
    walk_at "mv"
    refine ⟨by omega, RxP.of (lcM (fun t => pcs sh ((asI t).getD 0)) (fun t ht => ?_) ?_)⟩
    · rw [h1] at ht
      obtain ⟨k, hk, rfl⟩ := List.mem_map.mp ht
      obtain ⟨k0, k1⟩ := h3 k hk
      walk_at "mv"
      rw [show asI (.int k) = some k from rfl, op_some]
      exact gIx_pcs k0 k1 rfl
    · rcases ho with ⟨ks', hk', _, e⟩ | ⟨z, _⟩
      · have := ok_one hok hk'
        subst this
        rw [e, h1, List.map_map]
        rfl
      · rcases z with z | z
        · exact absurd z hn
        · exact absurd ⟨ks, hok⟩ z
theorem q_lpart_due {sh : List (List Int)} {ns : List Th} (hl : ns.length ≤ 1000) : RsP (m_lpart_due sh ns) fun r _ => Out sh ns r := by
  unfold m_lpart_due M_lpart_due
  walk_at "mv"
  refine cutP (fun e => e = (some sh, some ns, none, none, none, ()) ∧ ∃ ks, Ok sh ns ks) ?_ ?_
  · rw [sp_kill]
    walk_at "mv"
    refine loopP (fun i e => ∃ ks : List Int, ns.take i = ks.map .int ∧ ks.Nodup ∧ (∀ k ∈ ks, 0 ≤ k ∧ k < (sh.length : Int)) ∧ e = (some sh, some ns, none, none, none, ())) ⟨[], rfl, by simp, by simp, rfl⟩ ?_ ?_
    · rintro i kt e hk ⟨ks, h1, h2, h3, rfl⟩
      rw [sp_kill]
      walk_at "mv"
      have hi := (List.getElem?_eq_some_iff.mp hk).1
      rw [enumF_length] at hi
      obtain ⟨g1, g2⟩ := enumF_get hk
      obtain ⟨ix, t⟩ := kt
      dsimp only at g1 g2
      subst g1
      have ht : ns[i]? = some t := g2
      have bad : (¬ ∃ ks, Ok sh ns ks) → Out sh ns (.inr "NoPiece") := fun z => .inr ⟨.inr z, rfl⟩
      refine q_lis_number.imp ?_
      rintro b _ rfl
      cases hb : num t 0 ((sh.length : Int) - 1) with
      | false =>
        rw [if_pos (by rfl)]
        refine bad (ok_bad h1 ht fun k e k0 k1 => ?_)
        have : num t 0 ((sh.length : Int) - 1) = true := num_iff.mpr ⟨k, e, k0, by omega⟩
        rw [hb] at this
        cases this
      | true =>
        obtain ⟨k, rfl, k0, k1⟩ := num_iff.mp hb
        rw [if_neg (by simp), cut_to (by omega), h1]
        have hkl : ks.length ≤ ns.length := by
          have := congrArg List.length h1
          rw [List.length_take, List.length_map] at this
          omega
        refine ⟨by rw [List.length_map]; omega, lcP (fun x => decide (asI x = some k)) (fun x => (asI x).getD 0) (fun x hx => ?_) ?_⟩
        · obtain ⟨j, hj, rfl⟩ := List.mem_map.mp hx
          walk_at "mv"
          rw [show asI (.int j) = some j from rfl, op_some, show asI (.int k) = some k from rfl, op_some]
          by_cases e : j = k
          · subst e
            simp [asI, op_some]
          · simp [asI, e]
        · have ef : (ks.map Th.int).filter (fun x => decide (asI x = some k)) = (ks.filter fun j => decide (j = k)).map Th.int := by
            rw [List.filter_map]
            congr 1
            refine List.filter_congr fun j _ => ?_
            simp [asI]
          rw [ef, List.map_map]
          by_cases hkk : k ∈ ks
          · have hne : ks.filter (fun j => decide (j = k)) ≠ [] := fun z => by
              have : k ∈ ks.filter fun j => decide (j = k) := List.mem_filter.mpr ⟨hkk, by simp⟩
              rw [z] at this
              cases this
            rw [if_pos (by simpa using hkk)]
            exact bad (ok_bad h1 ht fun k' e _ _ => by cases e; exact hkk)
          · have he : ks.filter (fun j => decide (j = k)) = [] := List.filter_eq_nil_iff.mpr fun j hj z => hkk (by have := of_decide_eq_true z; rw [← this]; exact hj)
            rw [he, if_neg (by simp)]
            refine ⟨ks ++ [k], ?_, ?_, ?_, rfl⟩
            · rw [List.take_succ, ht, h1]
              simp
            · exact List.nodup_append.mpr ⟨h2, by simp, fun a ha b hb e => hkk (by rw [← List.mem_singleton.mp hb, ← e]; exact ha)⟩
            · intro x hx
              rcases List.mem_append.mp hx with h | h
              · exact h3 x h
              · rw [List.mem_singleton.mp h]
                omega
    · rintro e ⟨ks, h1, h2, h3, rfl⟩
      rw [show (enumF ns).length = ns.length by simp [enumF], List.take_length] at h1
      exact ⟨rfl, ks, h1, h2, h3⟩
  · rintro e ⟨rfl, ks, hk⟩
    walk_at "mv"
    have hkl : ns.length = ks.length := by
      rw [hk.1, List.length_map]
    refine ⟨by omega, lcM (fun t => pcs sh ((asI t).getD 0)) (fun t ht => ?_) ?_⟩
    · rw [hk.1] at ht
      obtain ⟨k, hk1, rfl⟩ := List.mem_map.mp ht
      obtain ⟨k0, k1⟩ := hk.2.2 k hk1
      walk_at "mv"
      rw [show asI (.int k) = some k from rfl, op_some]
      exact gIx_pcs k0 k1 rfl
    · walk_at "mv"
      rw [show gEqN ns ([] : List Th) = some (decide (ns = [])) by cases ns <;> rfl, op_some]
      by_cases hn : ns = []
      · rw [if_pos (by simpa using hn)]
        have e1 : ∀ xs : List (List Int), gPick (xs, ("NoPiece" : Str)) 1 = some (.inr "NoPiece") := fun _ => rfl
        rw [e1, op_some]
        exact .inr ⟨.inl hn, rfl⟩
      · rw [if_neg (by simpa using hn)]
        have e1 : ∀ xs : List (List Int), gPick (xs, ("NoPiece" : Str)) 0 = some (.inl xs) := fun _ => rfl
        rw [e1, op_some]
        refine .inl ⟨ks, hk, fun z => hn (by rw [hk.1, z]; rfl), ?_⟩
        rw [hk.1, List.map_map]
        rfl
theorem q_lword {n : Str} (h : n ∈ xNs) : RsP (m_lword ⟨n, none⟩) fun r _ => r = n := by
  have h : n = "NoPiece" := by simpa [xNs] using h
  rcases h with rfl
  exact rs_dec (by decide +kernel)
theorem q_ltold {x : Rs Unit (List (List Int))} {out : (List (List Int)) ⊕ Str} (h : RxP (fun c => c.fld = none ∧ c.name ∈ xNs ∧ out = .inr c.name) x fun r _ => out = .inl r) : RsP (m_ltold x) fun r _ => r = out := by
  unfold m_ltold M_ltold
  walk_at "mv"
  refine sp_tryA (x := x) rfl h (fun a u ha => ?_) (fun c hc => ⟨hc.2.1, ?_⟩)
  · walk_at "mv"
    subst ha
    simp [gPick, ofL, op_some]
  · obtain ⟨nm, fl⟩ := c
    obtain ⟨rfl, h2, rfl⟩ := hc
    walk_at "mv"
    refine (q_lword h2).imp ?_
    rintro r _ rfl
    rfl
theorem q_ltold_b {x : Rs Unit ((List (List Int)) × List (Int × List Int))} {out : ((List (List Int)) × List (Int × List Int)) ⊕ Str} (h : RxP (fun c => c.fld = none ∧ c.name ∈ xNs ∧ out = .inr c.name) x fun r _ => out = .inl r) : RsP (m_ltold_b x) fun r _ => r = out := by
  unfold m_ltold_b M_ltold_b
  walk_at "mv"
  refine sp_tryA (x := x) rfl h (fun a u ha => ?_) (fun c hc => ⟨hc.2.1, ?_⟩)
  · walk_at "mv"
    rw [rp_small]
    walk_at "mv"
    subst ha
    simp [gPick, ofL, op_some]
  · obtain ⟨nm, fl⟩ := c
    obtain ⟨rfl, h2, rfl⟩ := hc
    walk_at "mv"
    refine (q_lword h2).imp ?_
    rintro r _ rfl
    rfl
theorem q_is_from_i {t lo hi : Int} : RsP (m_is_from_i t lo hi) fun b _ => b = decide (lo ≤ t ∧ t ≤ hi) := by
  unfold m_is_from_i M_is_from_i
  walk_at "mv"
  by_cases h : lo ≤ t
  · simp [h]
  · simp [h]
theorem ifE {ε ρ : Type} {e : ε} {N C B : ε → Prop} {T : ρ → ε → Prop} {c : ε → Rs ε Bool} {m n : ε → So ε ρ} {P : Bool → ε → Prop} (hc : RsP (c e) P) (h1 : ∀ e1, P true e1 → SoP (m e1) N C B T) (h2 : ∀ e1, P false e1 → SoP (n e1) N C B T) : SoP (mIfB c m n e) N C B T := by
  unfold mIfB
  rw [sp_if]
  refine hc.imp ?_
  intro b e1 hp
  cases b with
  | true => rw [if_pos rfl]; exact h1 e1 hp
  | false => rw [if_neg (by simp)]; exact h2 e1 hp
theorem q_part_i {sh : List (List Int)} {ns : List Int} (h : ∀ k ∈ ns, 0 ≤ k ∧ k < sh.length) (hn : ns.Nodup) (h0 : ns ≠ []) (hl : ns.length ≤ 1000) : RsP (m_part_i sh ns) fun r _ => r = ns.map (pcs sh) := by
  unfold m_part_i M_part_i
  walk_at "mv"
  refine iteI (fun z => absurd (by simpa using z) h0) fun _ => ?_
  refine cutP (fun e => e = (some sh, some ns, some ns, none, ())) ?_ ?_
  · rw [sp_kill]
    walk_at "mv"
    refine loopP (fun i e => e = (some sh, some ns, some (ns.take i), none, ())) rfl ?_ ?_
    · rintro i k e hk rfl
      have hi := (List.getElem?_eq_some_iff.mp hk).1
      obtain ⟨k0, k1⟩ := h k (List.mem_of_getElem? hk)
      have hnot : k ∉ ns.take i := fun z => by
        have e := od_split hk
        rw [e] at hn
        exact (List.nodup_append.mp hn).2.2 k z k List.mem_cons_self rfl
      rw [sp_kill]
      walk_at "mv"
      refine ifE (P := fun b e1 => b = false ∧ e1 = (some sh, some ns, some (ns.take i), some k, ())) ?_ (fun e1 z => nomatch z.1) ?_
      · walk_at "mv"
        refine q_is_from_i.imp ?_
        rintro b _ rfl
        rw [decide_eq_true (show 0 ≤ k ∧ k ≤ (sh.length : Int) - 1 by omega)]
        simp [hnot]
      · rintro e1 ⟨_, rfl⟩
        walk_at "mv"
        refine ⟨by rw [List.length_take]; omega, ?_⟩
        rw [List.take_succ, hk]
        rfl
    · rintro e rfl
      rw [List.take_length]
      rfl
  · rintro e rfl
    walk_at "mv"
    refine ⟨by omega, lcM (pcs sh) (fun k hk => ?_) rfl⟩
    obtain ⟨k0, k1⟩ := h k hk
    walk_at "mv"
    exact gIx_pcs k0 k1 rfl
structure Rws (sh : List (List Int)) (rows : List (Int × List Int)) : Prop where
  l1 : 1 ≤ sh.length
  l40 : sh.length ≤ 40
  ln : rows.length = sh.length
  nd : (rows.map fun r => r.1).Nodup
  rg : ∀ r ∈ rows, 0 ≤ r.1 ∧ r.1 < (sh.length : Int)
def bg (sh : List (List Int)) (rows : List (Int × List Int)) (m : Nat) : List (List Int) × List (Int × List Int) := ((rows.take m).map fun r => pcs sh r.1, (rng 0 (m : Int)).map fun i => (i, (rows[i.toNat]?.getD (0, [])).2))
def bOut (sh : List (List Int)) (rows : List (Int × List Int)) (t : Th) : (List (List Int) × List (Int × List Int)) ⊕ Str := match t with
  | .int k => if 1 ≤ k ∧ k ≤ (sh.length : Int) then .inl (bg sh rows k.toNat) else .inr "NoPiece"
  | _ => .inr "NoPiece"
theorem bOut_bad {sh : List (List Int)} {rows : List (Int × List Int)} {t : Th} (h : num t 1 (sh.length : Int) = false) : bOut sh rows t = .inr "NoPiece" := by
  unfold bOut
  cases t with
  | int k =>
    dsimp only
    rw [if_neg]
    intro z
    have : num (.int k) 1 (sh.length : Int) = true := num_iff.mpr ⟨k, rfl, z.1, z.2⟩
    rw [h] at this
    cases this
  | _ => rfl
theorem bOut_ok {sh : List (List Int)} {rows : List (Int × List Int)} {m : Nat} (m1 : 1 ≤ m) (m2 : m ≤ sh.length) : bOut sh rows (.int m) = .inl (bg sh rows m) := by
  unfold bOut
  dsimp only
  rw [if_pos ⟨by omega, by omega⟩]
  rfl
theorem en_map {rows : List (Int × List Int)} {m : Nat} (hm : m ≤ rows.length) : (enumF (rows.take m)).map (fun r => (r.1, r.2.2)) = (rng 0 (m : Int)).map fun i => (i, (rows[i.toNat]?.getD (0, [])).2) := by
  refine List.ext_getElem (by rw [List.length_map, List.length_map, enumF_length, List.length_take, rng_length]; omega) fun i h1 h2 => ?_
  rw [List.length_map, enumF_length, List.length_take] at h1
  have hi : i < rows.length := by omega
  have hE := enumF_get (xs := rows.take m) (i := i) (List.getElem?_eq_getElem (by rw [enumF_length, List.length_take]; omega))
  rw [List.getElem_map, List.getElem_map]
  have e2 : (rng 0 (m : Int))[i]'(by rw [rng_length]; omega) = (i : Int) := by simp [rng]
  rw [e2]
  have h3 := hE.2
  rw [List.getElem?_take_of_lt (by omega), List.getElem?_eq_getElem hi] at h3
  have h3 := Option.some.inj h3
  refine Prod.ext hE.1 ?_
  show (_ : Int × Int × List Int).2.2 = _
  rw [← h3]
  simp [List.getElem?_eq_getElem hi]
theorem q_begun {sh : List (List Int)} {rows : List (Int × List Int)} {t : Th} (h : Rws sh rows) : RxP (fun c => c.fld = none ∧ c.name ∈ xNs ∧ bOut sh rows t = .inr c.name) (m_begun sh rows t) fun r _ => bOut sh rows t = .inl r := by
  unfold m_begun M_begun
  have l40 := h.l40
  have ln := h.ln
  walk_at "mv"
  refine q_is_from.imp ?_
  rintro b _ rfl
  cases hb : num t 1 (sh.length : Int) with
  | false =>
    rw [if_pos (by rfl)]
    exact ⟨by decide, bOut_bad hb⟩
  | true =>
    obtain ⟨k, rfl, k0, k1⟩ := num_iff.mp hb
    obtain ⟨m, rfl⟩ : ∃ m : Nat, k = (m : Int) := ⟨k.toNat, by omega⟩
    rw [if_neg (by simp), show asI (.int (m : Int)) = some (m : Int) from rfl, op_some, cut_to (by omega)]
    have htl : (rows.take m).length = m := by rw [List.length_take]; omega
    refine ⟨by omega, RxP.of (lcM (fun r => r.1) (fun r hr => ?_) ?_)⟩
    · walk_at "mv"
    walk_at "mv"
    refine (q_part_i (ns := (rows.take m).map fun r => r.1) (fun k hk => ?_) ?_ ?_ ?_).imp ?_
    · obtain ⟨r, hr, rfl⟩ := List.mem_map.mp hk
      exact h.rg r (List.mem_of_mem_take hr)
    · rw [List.map_take]
      exact h.nd.sublist (List.take_sublist _ _)
    · exact List.ne_nil_of_length_pos (by rw [List.length_map, htl]; omega)
    · rw [List.length_map, htl]
      omega
    rintro _ _ rfl
    refine ⟨by rw [enumF_length]; omega, RxP.of (lcM (fun r => (r.1, r.2.2)) (fun r hr => ?_) ?_)⟩
    · simp only [rp_un, rp_pair, rp_op, rp_var, rp_c, p2, pN, op_some]
      refine (op_some (α := Int)).symm ▸ ?_
      refine (op_some (α := Int × List Int)).symm ▸ ?_
      rw [show gSnd r.2 1 = some r.2.2 from rfl, op_some]
      exact ⟨rfl, rfl⟩
    · rw [en_map (by omega), bOut_ok (by omega) (by omega), List.map_map]
      rfl
theorem q_lbegun_due {sh : List (List Int)} {rows : List (Int × List Int)} {t : Th} (h : Rws sh rows) : RsP (m_lbegun_due sh rows t) fun r _ => r = bOut sh rows t := by
  unfold m_lbegun_due M_lbegun_due
  have l40 := h.l40
  have ln := h.ln
  walk_at "mv"
  refine q_lis_number.imp ?_
  rintro b _ rfl
  cases hb : num t 1 (sh.length : Int) with
  | false =>
    rw [if_pos (by rfl)]
    exact (bOut_bad hb).symm
  | true =>
    obtain ⟨k, rfl, k0, k1⟩ := num_iff.mp hb
    obtain ⟨m, rfl⟩ : ∃ m : Nat, k = (m : Int) := ⟨k.toNat, by omega⟩
    rw [if_neg (by simp), show asI (.int (m : Int)) = some (m : Int) from rfl, op_some, cut_to (by omega)]
    have htl : (rows.take m).length = m := by rw [List.length_take]; omega
    refine ⟨by omega, lcM (fun r => pcs sh r.1) (fun r hr => ?_) ?_⟩
    · obtain ⟨r0, r1⟩ := h.rg r (List.mem_of_mem_take hr)
      walk_at "mv"
      exact gIx_pcs r0 r1 rfl
    walk_at "mv"
    rw [show asI (.int (m : Int)) = some (m : Int) from rfl, op_some]
    refine ⟨by simp [bigI]; omega, by rw [rng_length]; omega, lcM (fun i => (i, (rows[i.toNat]?.getD (0, [])).2)) (fun i hi => ?_) ?_⟩
    · have hi2 := mem_rng.mp hi
      obtain ⟨j, rfl⟩ : ∃ j : Nat, i = (j : Int) := ⟨i.toNat, by omega⟩
      have hj : j < rows.length := by omega
      walk_at "mv"
      rw [show gIx rows (j : Int) = some rows[j] from atI_nat (List.getElem?_eq_getElem hj), op_some]
      simp [List.getElem?_eq_getElem hj]
    · rw [bOut_ok (by omega) (by omega)]
      rfl
theorem q_lany {st : List Int × Int × Int} {names : List Int} {s m : Nat} (h : PenOk st) (hn : names.Nodup) (hl : names.length ≤ 100) (s2 : s ≤ names.length) (m1 : 1 ≤ m) (m2 : m ≤ 100) :
    RsP (m_lany st names (s : Int) (m : Int)) fun ps st' => Pc names s ps ∧ 1 ≤ ps.length ∧ ps.length ≤ m ∧ PenOk st' := by
  unfold m_lany M_lany
  walk_at "mv"
  refine (q_ltake h (by omega) (by omega)).imp ?_
  rintro r st1 ⟨⟨r0, r1⟩, h1⟩
  obtain ⟨t, ht⟩ : ∃ t : Nat, 1 + r = ((t + 1 : Nat) : Int) := ⟨r.toNat, by omega⟩
  rw [ht]
  refine ⟨by simp [bigI]; omega, ?_⟩
  refine loopR (n := t + 1) rfl (fun i e => ∃ (ps : List (List Int)) (st2 : List Int × Int × Int), Pc names s ps ∧ (1 ≤ i → 1 ≤ ps.length) ∧ ps.length ≤ i ∧ PenOk st2 ∧ e = (some st2, some names, some (s : Int), some (m : Int), some ps, none, none, none, none, none, ())) ⟨[], st1, fun p hp => absurd hp List.not_mem_nil, by omega, Nat.le_refl _, h1, rfl⟩ ?_ ?_
  · rintro i e hi ⟨ps, st2, hps, l1, l2, h2, rfl⟩
    walk_at "mv"
    refine ⟨by simp [bigI]; omega, ?_⟩
    refine loopR (n := s) rfl (fun j e => ∃ (rest piece : List Int) (st3 : List Int × Int × Int), (piece ++ rest).Perm names ∧ piece.length = j ∧ PenOk st3 ∧ e = (some st3, some names, some (s : Int), some (m : Int), some ps, some (i : Int), some rest, some piece, none, none, ())) ⟨names, [], st2, .refl _, rfl, h2, rfl⟩ ?_ ?_
    · rintro j e hj ⟨rest, piece, st3, hp, hpl, h3, rfl⟩
      have hrl : rest.length + j = names.length := by rw [← hp.length_eq, List.length_append]; omega
      walk_at "mv"
      refine (q_ltake h3 (by omega) (by omega)).imp ?_
      rintro a st4 ⟨⟨a0, a1⟩, h4⟩
      unfold gPopAt
      rw [op_ite]
      refine ⟨⟨a0, by omega⟩, ?_⟩
      have ha : a.toNat < rest.length := by omega
      rw [List.getElem?_eq_getElem ha, Option.map_some, op_some]
      refine ⟨by omega, _, _, st4, ?_, by simp; omega, h4, rfl⟩
      refine List.Perm.trans ?_ hp
      rw [List.append_assoc]
      refine List.Perm.append_left _ ?_
      exact erase_perm ha
    · rintro e ⟨rest, piece, st3, hp, hpl, h3, rfl⟩
      walk_at "mv"
      have hn2 : piece.Nodup := (List.nodup_append.mp (hp.nodup_iff.mpr hn)).1
      refine ⟨by omega, by omega, lcM (fun x => x) (fun x _ => ?_) ?_⟩
      · walk_at "mv"
      · walk_at "mv"
        refine iteI (fun hm => ?_) fun hm => ?_
        · refine ⟨by omega, by omega, ps ++ [srt piece], st3, fun y hy => ?_, by simp, by rw [List.length_append, List.length_singleton]; omega, h3, rfl⟩
          rcases List.mem_append.mp hy with hy | hy
          · exact hps y hy
          · rw [List.mem_singleton] at hy
            rw [hy, srt_length]
            exact ⟨hpl, srt_nodup hn2, srt_pw _, fun x hx => hp.mem_iff.mp (List.mem_append_left _ (srt_mem.mp hx))⟩
        · refine ⟨ps, st3, hps, fun _ => ?_, by omega, h3, rfl⟩
          have : srt piece ∈ ps.map fun x => x := by simpa using hm
          rw [List.map_id'] at this
          exact List.length_pos_of_mem this
  · rintro e ⟨ps, st2, hps, l1, l2, h2, rfl⟩
    walk_at "mv"
    exact ⟨hps, l1 (by omega), by omega, h2⟩
def ShB (sh : List (List Int)) : Prop := (1 ≤ sh.length ∧ sh.length ≤ 40) ∧ ∀ p ∈ sh, p.length ≤ 6 ∧ ∀ x ∈ p, Bd30 x
theorem q_lshape {st : List Int × Int × Int} (h : PenOk st) : RsP (m_lshape st) fun r st' => ShB r.1 ∧ PenOk st' := by
  unfold m_lshape M_lshape
  walk_at "mv"
  refine (q_ltake h (by omega) (by omega)).imp ?_
  rintro r st1 ⟨⟨r0, r1⟩, h1⟩
  obtain ⟨s, hs⟩ : ∃ s : Nat, 1 + r = ((s + 1 : Nat) : Int) := ⟨r.toNat, by omega⟩
  refine (q_ltake h1 (by omega) (by omega)).imp ?_
  rintro r' st2 ⟨⟨r0', r1'⟩, h2⟩
  obtain ⟨n, hn⟩ : ∃ n : Nat, 1 + r + 1 + r' = (n : Int) := ⟨(1 + r + 1 + r').toNat, by omega⟩
  rw [hn]
  refine (q_lcorners' h2 (by omega)).imp ?_
  rintro names st3 ⟨hc, h3⟩
  refine (q_ltake h3 (by omega) (by omega)).imp ?_
  rintro a st4 ⟨⟨a0, a1⟩, h4⟩
  refine op_ix (xs := [(12 : Int), 12, 12, 40]) a0 a1 fun most hm => ?_
  obtain ⟨m, rfl, m1, m2⟩ : ∃ m : Nat, most = (m : Int) ∧ 1 ≤ m ∧ m ≤ 40 := by
    simp only [List.mem_cons, List.not_mem_nil, or_false] at hm
    refine ⟨most.toNat, ?_, ?_, ?_⟩ <;> omega
  refine (q_ltake h4 (by omega) (by omega)).imp ?_
  rintro b st5 ⟨⟨b0, b1⟩, h5⟩
  have hcl := hc.1
  rw [hs]
  refine iteI (fun _ => ?_) fun _ => ?_
  · refine (q_lany h5 hc.2.1 (by omega) (by omega) m1 (by omega)).imp ?_
    rintro ps st6 ⟨p1, p2, p3, h6⟩
    exact ⟨⟨⟨p2, by omega⟩, fun p hp => ⟨by have := (p1 p hp).1; omega, fun x hx => hc.2.2 x ((p1 p hp).2.2.2 x hx)⟩⟩, h6⟩
  · refine (q_lgrown (n := s) (most := m) h5 hc.2.1 (by omega) (by omega) (by omega) m1 (by omega)).imp ?_
    rintro ps st6 ⟨⟨p1, p2, p3, p4, p5⟩, h6⟩
    refine (q_lorder (n := ps.length) h6 (by omega)).imp ?_
    rintro ks st7 ⟨hk, h7⟩
    have hkp := order_rng hk
    have hkl : ks.length = ps.length := by rw [hk.length_eq]; simp
    refine ⟨by omega, lcM (pcs ps) (fun k hk => ?_) ?_⟩
    · obtain ⟨k0, k1⟩ := mem_rng.mp (hkp.mem_iff.mp hk)
      walk_at "mv"
      exact gIx_pcs k0 k1 rfl
    · walk_at "mv"
      refine ⟨⟨⟨by rw [List.length_map]; omega, by rw [List.length_map]; omega⟩, fun p hp => ?_⟩, h7⟩
      obtain ⟨k, hk, rfl⟩ := List.mem_map.mp hp
      obtain ⟨k0, k1⟩ := mem_rng.mp (hkp.mem_iff.mp hk)
      have hm := pcs_mem k0 k1
      exact ⟨by have := (p1 _ hm).1; omega, fun x hx => hc.2.2 x (p5 _ hm x hx)⟩
theorem q_llaid {st : List Int × Int × Int} {n most : Nat} (h : PenOk st) (n5 : n ≤ 4) (m1 : 1 ≤ most) (m40 : most ≤ 40) : RsP (m_llaid st ((n + 1 : Nat) : Int) (most : Int)) fun r st' => (ShB r.1 ∧ Rws r.1 r.2.1 ∧ ∀ x ∈ r.2.1, x.2.length ≤ 6 ∧ ∀ c ∈ x.2, Bd30 c) ∧ PenOk st' := by
  unfold m_llaid M_llaid
  walk_at "mv"
  refine (q_ltake h (by decide) (by decide)).imp ?_
  rintro a st1 ⟨⟨a0, a1⟩, h1⟩
  obtain ⟨w, hw⟩ : ∃ w : Nat, ((n + 1 : Nat) : Int) + 1 + a = (w : Int) := ⟨(((n + 1 : Nat) : Int) + 1 + a).toNat, by omega⟩
  rw [hw]
  refine (q_lcorners' h1 (by omega)).imp ?_
  rintro names st2 ⟨hc, h2⟩
  have hcl := hc.1
  refine (q_lgrown (n := n) (most := most) h2 hc.2.1 (by omega) (by omega) (by omega) m1 m40).imp ?_
  rintro ps st3 ⟨⟨p1, p2, p3, p4, p5⟩, h3⟩
  refine (q_lnumbered h3 p1 (by omega) p2 (by omega) p4).imp ?_
  rintro ⟨sh, rows⟩ st4 ⟨⟨od, hp, hr⟩, hin, h4⟩
  dsimp only at hp hr hin
  subst hr
  show OpP (some (sh, rwn sh [] od, names)) _
  rw [op_some]
  have hol := hp.ol
  have l1 := hp.l1
  have l40 := hp.l40
  have hri := hp.ri
  have hbd : ∀ p ∈ sh, p.length ≤ 6 ∧ ∀ x ∈ p, Bd30 x := fun p hpm => ⟨by have := (hri p hpm).1; omega, fun x hx => hc.2.2 x (p5 p (hin p hpm) x hx)⟩
  refine ⟨⟨⟨⟨l1, l40⟩, hbd⟩, ⟨l1, l40, by rw [rwn_len]; exact hol, ?_, fun r hr => ?_⟩, fun r hr => ?_⟩, h4⟩
  · show ((rwn sh [] od).map fun r => r.1).Nodup
    rw [show (rwn sh [] od).map (fun r => r.1) = od from rwn_fst sh od []]
    exact hp.og.nd
  · obtain ⟨g1, A, g2⟩ := rwn_mem hr
    exact hp.mem.mp g1
  · obtain ⟨g1, A, g2⟩ := rwn_mem hr
    obtain ⟨k0, k1⟩ := hp.mem.mp g1
    obtain ⟨q1, q2⟩ := hbd _ (pcs_mem k0 k1)
    rw [g2]
    have hsub : (br A (pcs sh r.1)).Sublist (pcs sh r.1) := List.filter_sublist
    exact ⟨by have := hsub.length_le; omega, fun x hx => q2 x (hsub.subset hx)⟩
/-- a thing among the numbers -/
def Nt (t : Th) : Prop := OkT 100 1 t
theorem odds_nt {n : Nat} (n40 : n ≤ 40) : ∀ t ∈ [Th.int (-1), Th.int (n : Int), Th.int 100000000000000000000000000000, Th.bl true, Th.bl false, Th.non, Th.str ("0" : Str), Th.tup [Th.int 0], Th.lst [Th.int 0], Th.dct [], Th.int (0 - (n : Int)), Th.str ("" : Str), Th.int (-999999999999999999999999999999)], Nt t := fun t ht => by
  have hi : ∀ k : Int, Bd30 k → Nt (.int k) := fun k hk => (okT_int (abs80 hk)).mono (by decide) (by decide)
  have h0 : OkT 81 0 (.int 0) := okT_int (by decide)
  simp only [List.mem_cons, List.not_mem_nil, or_false] at ht
  rcases ht with rfl | rfl | rfl | rfl | rfl | rfl | rfl | rfl | rfl | rfl | rfl | rfl | rfl
  · exact hi _ (by unfold Bd30; omega)
  · exact hi _ (by unfold Bd30; omega)
  · exact hi _ (by unfold Bd30; omega)
  · exact okT_bl.mono (by decide) (by decide)
  · exact okT_bl.mono (by decide) (by decide)
  · exact okT_non.mono (by decide) (by decide)
  · exact (okT_str (n := 100) (by decide +kernel)).mono (by decide) (by decide)
  · exact (okT_tup (m := 81) (d := 0) (k := 1) (fun x hx => by rw [List.mem_singleton.mp hx]; exact h0) (by simp)).mono (by decide) (by decide)
  · exact (okT_lst (m := 81) (d := 0) (k := 1) (fun x hx => by rw [List.mem_singleton.mp hx]; exact h0) (by simp)).mono (by decide) (by decide)
  · exact ⟨by decide +kernel, by decide +kernel, by decide +kernel⟩
  · exact hi _ (by unfold Bd30; omega)
  · exact (okT_str (n := 100) (by decide +kernel)).mono (by decide) (by decide)
  · exact hi _ (by unfold Bd30; omega)
theorem q_lnumbers {st : List Int × Int × Int} {n : Nat} (h : PenOk st) (n1 : 1 ≤ n) (n40 : n ≤ 40) : RsP (m_lnumbers st (n : Int)) fun r st' => (r.length ≤ 300 ∧ ∀ t ∈ r, Nt t) ∧ PenOk st' := by
  unfold m_lnumbers M_lnumbers
  walk_at "mv"
  refine (q_lorder h (by omega)).imp ?_
  rintro od st1 ⟨hod, h1⟩
  have hor := order_rng hod
  have hol : od.length = n := by rw [hor.length_eq, rng_length]; omega
  have nti : ∀ t ∈ od.map Th.int, Nt t := fun t ht => by
    obtain ⟨k, hk, rfl⟩ := List.mem_map.mp ht
    have := mem_rng.mp (hor.mem_iff.mp hk)
    exact (okT_int (abs80 (by unfold Bd30; omega))).mono (by decide) (by decide)
  refine (q_ltake h1 (by decide) (by decide)).imp ?_
  rintro way st2 ⟨⟨w0, w1⟩, h2⟩
  refine (q_ltake h2 (by omega) (by omega)).imp ?_
  rintro at' st3 ⟨⟨t0, t1⟩, h3⟩
  refine cutP (fun e => ∃ ns, e = (some st3, some (n : Int), some ns, some way, some at', none, ()) ∧ ns.length ≤ 40 ∧ ∀ t ∈ ns, Nt t) ?_ ?_
  · walk_at "mv"
    refine iteI (fun _ => ?_) fun _ => ?_
    · refine ⟨_, rfl, ?_, fun t ht => nti t (cut_sub ht)⟩
      have := cut_len (od.map Th.int) none (some at')
      rw [List.length_map] at this
      omega
    · exact ⟨_, rfl, by rw [List.length_map]; omega, nti⟩
  · rintro e ⟨ns, rfl, l1, nt1⟩
    refine cutP (fun e => ∃ ns st4, e = (some st4, some (n : Int), some ns, some way, some at', none, ()) ∧ ns.length ≤ 130 ∧ (∀ t ∈ ns, Nt t) ∧ PenOk st4) ?_ ?_
    · walk_at "mv"
      refine iteI (fun _ => ?_) fun _ => ⟨ns, st3, rfl, by omega, nt1, h3⟩
      refine (q_ltake h3 (by omega) (by omega)).imp ?_
      rintro a st4 ⟨⟨a0, a1⟩, h4⟩
      have c1 := cut_len ns none (some at')
      have c2 := cut_len (cutL ns (some a) none) none (some 1)
      have c3 := cut_len ns (some a) none
      have c4 := cut_len ns (some at') none
      refine ⟨by omega, by rw [List.length_append]; omega, _, st4, rfl, by rw [List.length_append, List.length_append]; omega, fun t ht => ?_, h4⟩
      rcases List.mem_append.mp ht with ht | ht
      · rcases List.mem_append.mp ht with ht | ht
        · exact nt1 t (cut_sub ht)
        · exact nt1 t (cut_sub (cut_sub ht))
      · exact nt1 t (cut_sub ht)
    · clear l1 nt1 ns
      rintro e ⟨ns, st4, rfl, l1, nt1, h4⟩
      refine cutP (fun e => ∃ ns st5, e = (some st5, some (n : Int), some ns, some way, none, none, ()) ∧ ns.length ≤ 300 ∧ (∀ t ∈ ns, Nt t) ∧ PenOk st5) ?_ ?_
      · rw [sp_kill]
        walk_at "mv"
        refine iteI (fun _ => ?_) fun _ => ⟨ns, st4, rfl, by omega, nt1, h4⟩
        refine (q_ltake h4 (by omega) (by omega)).imp ?_
        rintro a st5 ⟨⟨a0, a1⟩, h5⟩
        refine ⟨by omega, ?_⟩
        refine (q_ltake h5 (by decide) (by decide)).imp ?_
        rintro b st6 ⟨⟨b0, b1⟩, h6⟩
        refine op_ix b0 (by simpa using b1) fun x hx => ?_
        have hxn := odds_nt n40 x hx
        generalize at' % ((cutL ns (some a) none).length + 1 : Int) = at2
        have c3 := cut_len ns (some a) none
        have c1 := cut_len (cutL ns (some a) none) none (some at2)
        have c2 := cut_len (cutL ns (some a) none) (some at2) none
        refine ⟨by omega, by rw [List.length_append, List.length_singleton]; omega, _, st6, rfl, by rw [List.length_append, List.length_append, List.length_singleton]; omega, fun t ht => ?_, h6⟩
        rcases List.mem_append.mp ht with ht | ht
        · rcases List.mem_append.mp ht with ht | ht
          · exact nt1 t (cut_sub (cut_sub ht))
          · rw [List.mem_singleton.mp ht]
            exact hxn
        · exact nt1 t (cut_sub (cut_sub ht))
      · rintro e ⟨ns, st5, rfl, l2, nt2, h5⟩
        walk_at "mv"
        exact ⟨⟨l2, nt2⟩, h5⟩
theorem rx_callP {ε α ρ : Type} {X : Xc → Prop} {p : α → Bool} {f : α → Rs Unit ρ} {m : ε → Rs ε α} {e : ε} {Q : ρ → ε → Prop} (h : RxP X (m e) fun a e1 => p a = true ∧ RxP X (f a) fun b _ => Q b e1) : RxP X (mCallP p f m e) Q := by
  unfold mCallP
  simp only [RxP_eq] at h ⊢
  cases hm : m e with
  | ok a e1 =>
    rw [hm] at h
    obtain ⟨h1, h2⟩ := h
    show RxP0 X (if p a = true then _ else _) Q
    rw [if_pos h1]
    revert h2
    cases f a <;> exact id
  | ex c e1 => rw [hm] at h; exact h
  | bad => rw [hm] at h; exact h
def BB (sh : List (List Int)) (rows : List (Int × List Int)) : Prop := ShB sh ∧ Rws sh rows ∧ ∀ x ∈ rows, x.2.length ≤ 6 ∧ ∀ c ∈ x.2, Bd30 c
theorem rp_bOut {sh : List (List Int)} {rows : List (Int × List Int)} {t : Th} (h : BB sh rows) : rpOk ((erSum (En.er (enT2 (enT (enT enI)) (enL (enT2 enI (enT enI))))) erS).enc (bOut sh rows t)) = true := by
  obtain ⟨⟨⟨s1, s2⟩, s3⟩, hR, hB⟩ := h
  have hbd : rpOk ((erSum (En.er (enT2 (enT (enT enI)) (enL (enT2 enI (enT enI))))) erS).enc (.inr "NoPiece")) = true := by decide +kernel
  have ln := hR.ln
  cases hb : num t 1 (sh.length : Int) with
  | false => rw [bOut_bad hb]; exact hbd
  | true =>
    obtain ⟨k, rfl, k0, k1⟩ := num_iff.mp hb
    obtain ⟨m, rfl⟩ : ∃ m : Nat, k = (m : Int) := ⟨k.toNat, by omega⟩
    rw [bOut_ok (by omega) (by omega)]
    show rpOk (.tuple [(enT (enT enI)).enc (bg sh rows m).1, (enL (enT2 enI (enT enI))).enc (bg sh rows m).2]) = true
    have o1 : Okd 100000 ((enT (enT enI)).enc (bg sh rows m).1) := (okd_shape (k := 6) (n := 40) (by
      show ((rows.take m).map _).length ≤ 40
      rw [List.length_map, List.length_take]
      omega) fun p hp => by
      obtain ⟨r, hr, rfl⟩ := List.mem_map.mp hp
      obtain ⟨k0, k1⟩ := hR.rg r (List.mem_of_mem_take hr)
      obtain ⟨q1, q2⟩ := s3 _ (pcs_mem k0 k1)
      exact ⟨q1, fun x hx => abs80 (q2 x hx)⟩).mono (by decide)
    have o2 : Okd 200000 ((enL (enT2 enI (enT enI))).enc (bg sh rows m).2) := (okd_lst (m := ((83 * 6 + 4) + 2) * 2 + 4) (k := 40) (fun x hx => by
      obtain ⟨r, hr, rfl⟩ := List.mem_map.mp hx
      obtain ⟨i, hi, rfl⟩ := List.mem_map.mp hr
      have hi := mem_rng.mp hi
      refine okd_tup (m := 83 * 6 + 4) (k := 2) (xs := [.int i, (enT enI).enc (rows[i.toNat]?.getD (0, [])).2]) (fun y hy => ?_) (by simp)
      rcases List.mem_cons.mp hy with rfl | hy
      · exact (okd_int (abs80 (by unfold Bd30; omega))).mono (by decide)
      · rw [List.mem_singleton.mp hy]
        have hil : i.toNat < rows.length := by omega
        rw [List.getElem?_eq_getElem hil, Option.getD_some]
        obtain ⟨q1, q2⟩ := hB _ (List.getElem_mem hil)
        exact okd_face q1 fun x hx => abs80 (q2 x hx)) (by
      show (((rng 0 (m : Int)).map _).map _).length ≤ 40
      rw [List.length_map, List.length_map, rng_length]
      omega)).mono (by decide)
    exact (okd_tup (m := 200000) (k := 2) (fun x hx => by
      rcases List.mem_cons.mp hx with rfl | hx
      · exact o1.mono (by decide)
      · rw [List.mem_singleton.mp hx]
        exact o2) (by simp)).rp (by decide)
theorem bOut_len {sh : List (List Int)} {rows : List (Int × List Int)} {t : Th} {x : List (List Int) × List (Int × List Int)} (hR : Rws sh rows) (h : bOut sh rows t = .inl x) : x.2.length ≤ 40 := by
  have l40 := hR.l40
  cases hb : num t 1 (sh.length : Int) with
  | false => rw [bOut_bad hb] at h; cases h
  | true =>
    obtain ⟨k, rfl, k0, k1⟩ := num_iff.mp hb
    obtain ⟨m, rfl⟩ : ∃ m : Nat, k = (m : Int) := ⟨k.toNat, by omega⟩
    rw [bOut_ok (by omega) (by omega)] at h
    cases h
    show ((rng 0 (m : Int)).map _).length ≤ 40
    rw [List.length_map, rng_length]
    omega
theorem q_lbegun_right {st : List Int × Int × Int} (h : PenOk st) : RsP (m_lbegun_right st) fun b st' => b = true ∧ PenOk st' := by
  unfold m_lbegun_right M_lbegun_right
  walk_at "mv"
  refine (q_ltake h (by decide) (by decide)).imp ?_
  rintro a st1 ⟨⟨a0, a1⟩, h1⟩
  refine (q_ltake h1 (by decide) (by decide)).imp ?_
  rintro b st2 ⟨⟨b0, b1⟩, h2⟩
  obtain ⟨n, hn⟩ : ∃ n : Nat, 1 + a = ((n + 1 : Nat) : Int) := ⟨a.toNat, by omega⟩
  rw [hn]
  refine op_ix (xs := [(9 : Int), 9, 40]) b0 (by simpa using b1) fun most hm => ?_
  obtain ⟨m, rfl, m1, m2⟩ : ∃ m : Nat, most = (m : Int) ∧ 1 ≤ m ∧ m ≤ 40 := by
    simp only [List.mem_cons, List.not_mem_nil, or_false] at hm
    refine ⟨most.toNat, ?_, ?_, ?_⟩ <;> omega
  refine (q_llaid h2 (by omega) m1 m2).imp ?_
  rintro ⟨sh, rows, names⟩ st3 ⟨⟨hS, hR, hB⟩, h3⟩
  dsimp only at hS hR hB
  have hbb : BB sh rows := ⟨hS, hR, hB⟩
  have l1 := hR.l1
  have l40 := hR.l40
  have lr := hR.ln
  walk_at "mv"
  refine (q_ltake h3 (by omega) (by omega)).imp ?_
  rintro c st4 ⟨⟨c0, c1⟩, h4⟩
  have hnl : ∀ t ∈ [Th.int (sh.length : Int), Th.int 1, Th.int (1 + c), Th.int 0, Th.int (-1), Th.int ((sh.length : Int) + 1), Th.int 100000000000000000000000000000, Th.bl true, Th.bl false, Th.non, Th.str ("1" : Str), Th.tup [Th.int 1]], nl t = true := fun t ht => by
    simp only [List.mem_cons, List.not_mem_nil, or_false] at ht
    rcases ht with rfl | rfl | rfl | rfl | rfl | rfl | rfl | rfl | rfl | rfl | rfl | rfl <;> rfl
  generalize [Th.int (sh.length : Int), Th.int 1, Th.int (1 + c), Th.int 0, Th.int (-1), Th.int ((sh.length : Int) + 1), Th.int 100000000000000000000000000000, Th.bl true, Th.bl false, Th.non, Th.str ("1" : Str), Th.tup [Th.int 1]] = some' at hnl ⊢
  refine cutP (fun e => e = (some st4, some sh, some rows, some names, some (sh.length : Int), some some', none, none, none, none, none, ())) ?_ ?_
  · rw [sp_kill]
    walk_at "mv"
    refine loopP (fun i e => e = (some st4, some sh, some rows, some names, some (sh.length : Int), some some', none, none, none, none, none, ())) rfl ?_ ?_
    · rintro i t e ht rfl
      have htn := hnl t (List.mem_of_getElem? ht)
      rw [sp_kill]
      walk_at "mv"
      refine (q_lbegun_due hR).imp ?_
      rintro r _ rfl
      have hrp := rp_bOut (t := t) hbb
      refine ⟨by decide, ?_⟩
      refine loopR (n := 2) rfl (fun i e => e = (some st4, some sh, some rows, some names, some (sh.length : Int), some some', some t, some (bOut sh rows t), none, none, none, ())) rfl ?_ ?_
      · rintro j e hj rfl
        rw [sp_kill]
        walk_at "mv"
        refine sp_scope ?_
        unfold ks0_lbegun_right
        walk_at "mv"
        refine RsP.imp (q_ltold_b (out := bOut sh rows t) ?_) ?_
        · unfold kl0_lbegun_right
          rw [rx_out]
          refine rx_callP ?_
          walk_at "mv"
          exact ⟨htn, q_begun hR⟩
        · rintro r _ rfl
          refine ifE (P := fun b e1 => b = false ∧ e1 = (some st4, some sh, some rows, some names, some (sh.length : Int), some some', some t, some (bOut sh rows t), some (j : Int), some rows, some (bOut sh rows t), ())) ?_ (fun e1 z => nomatch z.1) ?_
          · walk_at "mv"
            refine op_reprE hrp (op_reprE hrp ?_)
            simp
          · rintro e1 ⟨_, rfl⟩
            walk_at "mv"
            cases hO : bOut sh rows t with
            | inl x =>
              have hx := bOut_len hR hO
              show OpP (some true) _
              rw [op_some, if_pos rfl]
              exact sp_app1N (x := x) rfl (by omega) rfl
            | inr x =>
              show OpP (some false) _
              rw [op_some, if_neg (by simp)]
              trivial
      · rintro e rfl
        rfl
    · rintro e rfl
      rfl
  · rintro e rfl
    walk_at "mv"
    exact h4
theorem rp_outO {sh : List (List Int)} {ns : List Th} {out : List (List Int) ⊕ Str} (hS : ShB sh) (hl : ns.length ≤ 300) (h : Out sh ns out) : rpOk ((erSum (En.er (enT (enT enI))) erS).enc out) = true := by
  rcases h with ⟨ks, hk, h0, rfl⟩ | ⟨_, rfl⟩
  · show rpOk ((enT (enT enI)).enc (ks.map (pcs sh))) = true
    have hkl : ks.length ≤ 300 := by
      have := congrArg List.length hk.1
      rw [List.length_map] at this
      omega
    refine (okd_shape (k := 6) (n := 300) (by rw [List.length_map]; exact hkl) fun p hp => ?_).rp (by decide)
    obtain ⟨k, hk1, rfl⟩ := List.mem_map.mp hp
    obtain ⟨k0, k1⟩ := hk.2.2 k hk1
    obtain ⟨q1, q2⟩ := hS.2 _ (pcs_mem k0 k1)
    exact ⟨q1, fun x hx => abs80 (q2 x hx)⟩
  · decide +kernel
theorem law_true (ns : List Int) : RsP (m_law ns) fun b _ => b = true := by
  unfold m_law M_law
  walk_at "mv"
  refine cutP (fun e => True) ?_ ?_
  · rw [sp_kill]
    walk_at "mv"
    refine ⟨by decide, ?_⟩
    refine loopR (n := 2) rfl (fun i e => ∃ st, PenOk st ∧ e = (some ns, some st, none, none, none, none, none, none, none, ())) ⟨_, ⟨Int.le_refl _, Int.le_refl _⟩, rfl⟩ ?_ fun _ _ => trivial
    rintro i e hi ⟨st, h, rfl⟩
    rw [sp_kill]
    walk_at "mv"
    refine (q_lshape h).imp ?_
    rintro ⟨sh, names⟩ st1 ⟨hS, h1⟩
    dsimp only at hS
    obtain ⟨⟨s1, s2⟩, s3⟩ := id hS
    refine cutP (fun e => ∃ st2, PenOk st2 ∧ e = (some ns, some st2, some (i : Int), some sh, some names, none, none, none, none, ())) ?_ ?_
    · rw [sp_kill]
      walk_at "mv"
      refine ⟨by decide, ?_⟩
      refine loopR (n := 6) rfl (fun k e => ∃ st2, PenOk st2 ∧ e = (some ns, some st2, some (i : Int), some sh, some names, none, none, none, none, ())) ⟨st1, h1, rfl⟩ ?_ ?_
      · rintro k e hk ⟨st2, h2, rfl⟩
        rw [sp_kill]
        walk_at "mv"
        refine (q_lnumbers h2 s1 s2).imp ?_
        rintro nu st3 ⟨⟨n1, n2⟩, h3⟩
        refine cutP (fun e => ∃ nu, nu.length ≤ 300 ∧ (∀ t ∈ nu, Nt t) ∧ e = (some ns, some st3, some (i : Int), some sh, some names, some (k : Int), some nu, none, none, ())) ?_ ?_
        · walk_at "mv"
          refine iteI (fun _ => ⟨[], by simp, by simp, rfl⟩) fun _ => ⟨nu, n1, n2, rfl⟩
        · clear n1 n2 nu
          rintro e ⟨nu, n1, n2, rfl⟩
          walk_at "mv"
          refine (q_lpart_due (by omega)).imp ?_
          rintro out _ ho
          have hrp := rp_outO hS n1 ho
          refine ifE (P := fun b e1 => b = false ∧ e1 = (some ns, some st3, some (i : Int), some sh, some names, some (k : Int), some nu, some nu, some out, ())) ?_ (fun e1 z => nomatch z.1) ?_
          · walk_at "mv"
            refine RsP.imp (q_ltold (out := out) ?_) ?_
            · unfold kl_law
              walk_at "mv"
              exact q_part (by omega) ho
            · rintro r _ rfl
              refine op_reprE hrp (op_reprE hrp ?_)
              rw [if_neg (by simp)]
              have hok : OkT ((100 + 2) * 300 + 4) 2 (.lst nu) := okT_lst n2 n1
              refine op_reprT hok (by decide) (by decide) (op_reprT hok (by decide) (by decide) ?_)
              simp
          · rintro e1 ⟨_, rfl⟩
            walk_at "mv"
            exact ⟨st3, h3, rfl⟩
      · rintro e ⟨st2, h2, rfl⟩
        exact ⟨st2, h2, rfl⟩
    · rintro e ⟨st2, h2, rfl⟩
      walk_at "mv"
      refine (q_lbegun_right h2).imp ?_
      rintro b st3 ⟨rfl, h3⟩
      rw [if_neg (by simp)]
      exact ⟨st3, h3, rfl⟩
  · rintro e _
    walk_at "mv"
def topS (i : Nat) : Stmt := PySem.Challenge.pw_wholesides_k35_parts_and_beginnings.main.body.getD i (.Pass ⟨0, 0, 0, 0⟩)
structure Tx (mg : Str → Option Value) : Prop where
  b_int : mg "int" = none
  b_isinstance : mg "isinstance" = none
  b_bool : mg "bool" = none
  b_len : mg "len" = none
  b_tuple : mg "tuple" = none
  b_enumerate : mg "enumerate" = none
  b_abs : mg "abs" = none
  b_range : mg "range" = none
  b_sorted : mg "sorted" = none
  b_list : mg "list" = none
  b_ValueError : mg "ValueError" = none
  b_str : mg "str" = none
  b_repr : mg "repr" = none
structure Tc (K : PySem.W.Frag) (cx : Str → Addr) (mg : Str → Option Value) : Prop where
  x_SideError : mg "SideError" = some (.ref (cx "SideError"))
  x_NoShape : mg "NoShape" = some (.ref (cx "NoShape"))
  x_NoFace : mg "NoFace" = some (.ref (cx "NoFace"))
  x_NoPiece : mg "NoPiece" = some (.ref (cx "NoPiece"))
  x_NoCorner : mg "NoCorner" = some (.ref (cx "NoCorner"))
  x_NotClosed : mg "NotClosed" = some (.ref (cx "NotClosed"))
  x_TooMany : mg "TooMany" = some (.ref (cx "TooMany"))
  x_NoOrder : mg "NoOrder" = some (.ref (cx "NoOrder"))
  x_NoWish : mg "NoWish" = some (.ref (cx "NoWish"))
  x_NoFit : mg "NoFit" = some (.ref (cx "NoFit"))
  x_NoShrink : mg "NoShrink" = some (.ref (cx "NoShrink"))
  x_NoText : mg "NoText" = some (.ref (cx "NoText"))
  x_NoRow : mg "NoRow" = some (.ref (cx "NoRow"))
  x_NoName : mg "NoName" = some (.ref (cx "NoName"))
  r_NoPiece : rzB K (cx "NoPiece") = true
  xk : Xk K cx xNs xCs
def cxF (C0 C1 C2 C3 C4 C5 C6 C7 C8 C9 C10 C11 C12 C13 : Addr) : Str → Addr := fun n => if n == "NoShape" then C1 else if n == "NoFace" then C2 else if n == "NoPiece" then C3 else if n == "NoCorner" then C4 else if n == "NotClosed" then C5 else if n == "TooMany" then C6 else if n == "NoOrder" then C7 else if n == "NoWish" then C8 else if n == "NoFit" then C9 else if n == "NoShrink" then C10 else if n == "NoText" then C11 else if n == "NoRow" then C12 else if n == "NoName" then C13 else C0
section
variable {P : Program} {w : World} {K : PySem.W.Frag} {mg : Str → Option Value} {base : Heap}
abbrev s_is_from : Stmt := topS 16
abbrev N_is_from : List Str := ["thing", "least", "most"]
theorem sc_is_from : FnScope N_is_from ["thing", "least", "most"] (defScope s_is_from) := ⟨rfl, rfl, rfl, by decide +kernel, rfl, by decide +kernel, by decide +kernel⟩
theorem ok_is_from {f : Addr} {fd : FuncData} (F : Fun K "is_from" "is_from" s_is_from f fd) (T : Tx mg) : FnOk P w K mg base CX0 1 f fd ["thing", "least", "most"] (sp_is_from K) := by
  have sc := sc_is_from
  refine F.ok sc (len_is_from K) (fun cdv A outer s H vs Q E hr h => ⟨t_is_from K, ?_, rd_is_from h⟩)
  exact (pss_one (ps_ret (pe_and (pe_callB call_isi (by rfl) T.b_isinstance (by decide +kernel) (pa_cons (pv 0) (pa_cons (pe_bltn (v := .ty "int") (u := .type "int") (by rfl) T.b_int (by decide +kernel) rfl) pa_nil))) (pe_and (pe_not (pe_callB call_isi (by rfl) T.b_isinstance (by decide +kernel) (pa_cons (pv 0) (pa_cons (pe_bltn (v := .ty "bool") (u := .type "bool") (by rfl) T.b_bool (by decide +kernel) rfl) pa_nil)))) (pe_one (pe_chain o_le o_le (pv 1) (pv 0) (pv 2)))))))
abbrev s_is_from_i : Stmt := topS 16
abbrev N_is_from_i : List Str := ["thing", "least", "most"]
theorem sc_is_from_i : FnScope N_is_from_i ["thing", "least", "most"] (defScope s_is_from_i) := ⟨rfl, rfl, rfl, by decide +kernel, rfl, by decide +kernel, by decide +kernel⟩
theorem ok_is_from_i {f : Addr} {fd : FuncData} (F : Fun K "is_from" "is_from" s_is_from_i f fd) (T : Tx mg) : FnOk P w K mg base CX0 1 f fd ["thing", "least", "most"] (sp_is_from_i K) := by
  have sc := sc_is_from_i
  refine F.ok sc (len_is_from_i K) (fun cdv A outer s H vs Q E hr h => ⟨t_is_from_i K, ?_, rd_is_from_i h⟩)
  exact (pss_one (ps_ret (pe_and (pe_callB call_isi (by rfl) T.b_isinstance (by decide +kernel) (pa_cons (pv 0) (pa_cons (pe_bltn (v := .ty "int") (u := .type "int") (by rfl) T.b_int (by decide +kernel) rfl) pa_nil))) (pe_and (pe_not (pe_callB call_isi (by rfl) T.b_isinstance (by decide +kernel) (pa_cons (pv 0) (pa_cons (pe_bltn (v := .ty "bool") (u := .type "bool") (by rfl) T.b_bool (by decide +kernel) rfl) pa_nil)))) (pe_one (pe_chain o_le o_le (pv 1) (pv 0) (pv 2)))))))
abbrev s_part : Stmt := topS 17
abbrev N_part : List Str := ["shape", "numbers", "taken", "number"]
theorem sc_part : FnScope N_part ["shape", "numbers"] (defScope s_part) := ⟨rfl, rfl, rfl, by decide +kernel, rfl, by decide +kernel, by decide +kernel⟩
theorem ok_part {f : Addr} {fd : FuncData} (F : Fun K "part" "part" s_part f fd) (T : Tx mg) {cx : Str → Addr} (Y : Tc K cx mg) (h_is_from : Has P w K mg base "is_from" ["thing", "least", "most"] 1 (sp_is_from K)) : FnOk P w K mg base (L2.CX P w) 2 f fd ["shape", "numbers"] (sp_part K cx) := by
  have sc := sc_part
  refine F.okX sc (len_part K cx) (fun cdv A outer s H vs Q E hr h => ⟨t_part K cx E, ?_, rd_part h⟩)
  exact (pss_cons (ps_if (PT.nox (pt_cmpR (op_eqN hr.units) (pv 1) (pe_lst pa_nil) (nomark _))) (pss_one (ps_rz rfl (takes_of rfl rfl rfl rfl) Y.r_NoPiece Y.x_NoPiece (by rfl))) pss_nil)
      (pss_cons (PSn (ps_set (i := 2) sc.nd rfl (.inl rfl) (pe_lst pa_nil)))
      (pss_cons (ps_for (passes_of rfl) rfl (pi_list (pv 1)) (pg_name (i := 3) sc.nd rfl (.inl rfl))
      (pss_cons (ps_if (PT.nox (PW.pt (pw_or (pt_not (pt_val (pe_h h_is_from (hr.mono (by decide)) (by rfl) (pa_cons (pv 3) (pa_cons pe_int (pa_cons (pe_op o_sub (pe_callB cr_len (by rfl) T.b_len (by decide +kernel) (pa_cons (pv 0) pa_nil)) pe_int) pa_nil)))))) (pw_or1 (pt_cmpR op_in_seq (pv 3) (pv 2) (by rfl)))))) (pss_one (ps_rz rfl (takes_of rfl rfl rfl rfl) Y.r_NoPiece Y.x_NoPiece (by rfl))) pss_nil)
      (pss_one (PSn (ps_expr (pe_bm PySem.F.plainAttrs_list PySem.F.slot_list_append PySem.F.type_list_append mt_append (pv 2) (pa_cons (pv 3) pa_nil)))))))
      (pss_one (PSn (ps_ret (pe_callTy cr_tuple (by rfl) T.b_tuple (by decide +kernel) (pa_cons (pe_lc (own := [("number", 3)]) (by rfl) sc.nd (pi_list (pv 1)) (blkOk_by (own := [("number", 3)]) (N := N_part) (sc := defScope s_part) (by decide +kernel)) (fun _ _ _ _ _ => (pg_name (i := 3) sc.nd rfl (by first | exact .inl rfl | exact .inr rfl))) (fun _ _ _ _ _ => pts_nil) (fun _ _ _ _ _ => (pe_ix ix_tup (pv 0) (pv 3) (fun _ _ => rfl)))) pa_nil))))))))
abbrev s_part_i : Stmt := topS 17
abbrev N_part_i : List Str := ["shape", "numbers", "taken", "number"]
theorem sc_part_i : FnScope N_part_i ["shape", "numbers"] (defScope s_part_i) := ⟨rfl, rfl, rfl, by decide +kernel, rfl, by decide +kernel, by decide +kernel⟩
theorem ok_part_i {f : Addr} {fd : FuncData} (F : Fun K "part" "part" s_part_i f fd) (T : Tx mg) (h_is_from_i : Has P w K mg base "is_from" ["thing", "least", "most"] 1 (sp_is_from_i K)) : FnOk P w K mg base CX0 2 f fd ["shape", "numbers"] (sp_part_i K) := by
  have sc := sc_part_i
  refine F.ok sc (len_part_i K) (fun cdv A outer s H vs Q E hr h => ⟨t_part_i K, ?_, rd_part_i h⟩)
  exact (pss_cons (ps_if (pt_cmpR (op_eqD hr.units) (pv 1) (pe_lst pa_nil) (nomark _)) (pss_one ps_never) pss_nil)
      (pss_cons (ps_set (i := 2) sc.nd rfl (.inl rfl) (pe_lst pa_nil))
      (pss_cons (ps_for PassesOwn.never rfl (pi_list (pv 1)) (pg_name (i := 3) sc.nd rfl (.inl rfl))
      (pss_cons (ps_if (PW.pt (pw_or (pt_not (pt_val (pe_h h_is_from_i (hr.mono (by decide)) (by rfl) (pa_cons (pv 3) (pa_cons pe_int (pa_cons (pe_op o_sub (pe_callB cr_len (by rfl) T.b_len (by decide +kernel) (pa_cons (pv 0) pa_nil)) pe_int) pa_nil)))))) (pw_or1 (pt_cmpR op_in_seq (pv 3) (pv 2) (by rfl))))) (pss_one ps_never) pss_nil)
      (pss_one (ps_expr (pe_bm PySem.F.plainAttrs_list PySem.F.slot_list_append PySem.F.type_list_append mt_append (pv 2) (pa_cons (pv 3) pa_nil))))))
      (pss_one (ps_ret (pe_callTy cr_tuple (by rfl) T.b_tuple (by decide +kernel) (pa_cons (pe_lc (own := [("number", 3)]) (by rfl) sc.nd (pi_list (pv 1)) (blkOk_by (own := [("number", 3)]) (N := N_part_i) (sc := defScope s_part_i) (by decide +kernel)) (fun _ _ _ _ _ => (pg_name (i := 3) sc.nd rfl (by first | exact .inl rfl | exact .inr rfl))) (fun _ _ _ _ _ => pts_nil) (fun _ _ _ _ _ => (pe_ix ix_tup (pv 0) (pv 3) (fun _ _ => rfl)))) pa_nil)))))))
abbrev s_begun : Stmt := topS 19
abbrev N_begun : List Str := ["shape", "paper", "many", "rows", "numbers", "number", "brought", "at", "row"]
theorem sc_begun : FnScope N_begun ["shape", "paper", "many"] (defScope s_begun) := ⟨rfl, rfl, rfl, by decide +kernel, rfl, by decide +kernel, by decide +kernel⟩
theorem ok_begun {f : Addr} {fd : FuncData} (F : Fun K "begun" "begun" s_begun f fd) (T : Tx mg) {cx : Str → Addr} (Y : Tc K cx mg) (h_is_from : Has P w K mg base "is_from" ["thing", "least", "most"] 1 (sp_is_from K)) (h_part_i : Has P w K mg base "part" ["shape", "numbers"] 2 (sp_part_i K)) : FnOk P w K mg base (L2.CX P w) 3 f fd ["shape", "paper", "many"] (sp_begun K cx) := by
  have sc := sc_begun
  refine F.okX sc (len_begun K cx) (fun cdv A outer s H vs Q E hr h => ⟨t_begun K cx E, ?_, rd_begun h⟩)
  exact (pss_cons (ps_if (PT.nox (pt_not (pt_val (pe_h h_is_from (hr.mono (by decide)) (by rfl) (pa_cons (pv 2) (pa_cons pe_int (pa_cons (pe_callB cr_len (by rfl) T.b_len (by decide +kernel) (pa_cons (pv 0) pa_nil)) pa_nil))))))) (pss_one (ps_rz rfl (takes_of rfl rfl rfl rfl) Y.r_NoPiece Y.x_NoPiece (by rfl))) pss_nil)
      (pss_cons (PSn (ps_set (i := 3) sc.nd rfl (.inl rfl) (pe_slice sl_list (pv 1) po_none (po_some (pv 2)))))
      (pss_cons (PSn (ps_setLc (i := 4) (own := [("number", 5), ("brought", 6)]) (by rfl) sc.nd rfl rfl (sw_true rfl rfl rfl (by decide +kernel)) (pi_list (pv 3)) (blkOk_by (own := [("number", 5), ("brought", 6)]) (N := N_begun) (sc := defScope s_begun) (by decide +kernel)) (fun _ _ _ _ _ => (pg_tup rfl (pgs_cons (pg_name (i := 5) sc.nd rfl (by first | exact .inl rfl | exact .inr rfl)) (pgs_cons (pg_name (i := 6) sc.nd rfl (by first | exact .inl rfl | exact .inr rfl)) pgs_nil)))) (fun _ _ _ _ _ => pts_nil) (fun _ _ _ _ _ => (pv 5))))
      (pss_one (PSn (ps_ret (pe_tup (pa_cons (pe_h h_part_i (hr.mono (by decide)) (by rfl) (pa_cons (pv 0) (pa_cons (pv 4) pa_nil))) (pa_cons (pe_lc (own := [("at", 7), ("row", 8)]) (by rfl) sc.nd (pi_enum (by rfl) T.b_enumerate (pa_cons (pv 3) pa_nil)) (blkOk_by (own := [("at", 7), ("row", 8)]) (N := N_begun) (sc := defScope s_begun) (by decide +kernel)) (fun _ _ _ _ _ => (pg_tup rfl (pgs_cons (pg_name (i := 7) sc.nd rfl (by first | exact .inl rfl | exact .inr rfl)) (pgs_cons (pg_name (i := 8) sc.nd rfl (by first | exact .inl rfl | exact .inr rfl)) pgs_nil)))) (fun _ _ _ _ _ => pts_nil) (fun _ _ _ _ _ => (pe_tup (pa_cons (pv 7) (pa_cons (pe_ix ix_tup (pv 8) pe_int (fun _ _ => rfl)) pa_nil))))) pa_nil)))))))))
abbrev s_lmixed : Stmt := topS 21
abbrev N_lmixed : List Str := ["_law_cell", "_law_k", "_law_one", "_law_two"]
theorem sc_lmixed : FnScope N_lmixed ["_law_cell", "_law_k"] (defScope s_lmixed) := ⟨rfl, rfl, rfl, by decide +kernel, rfl, by decide +kernel, by decide +kernel⟩
theorem ok_lmixed {f : Addr} {fd : FuncData} (F : Fun K "_law_mixed" "_law_mixed" s_lmixed f fd) (T : Tx mg) : FnOk P w K mg base CX0 1 f fd ["_law_cell", "_law_k"] (sp_lmixed K) := by
  have sc := sc_lmixed
  refine F.ok sc (len_lmixed K) (fun cdv A outer s H vs Q E hr h => ⟨t_lmixed K, ?_, rd_lmixed h⟩)
  exact (pss_cons (ps_set (i := 2) sc.nd rfl (.inl rfl) (pe_op o_mod (pe_op o_mul (pe_op o_add (pe_op o_add (pe_op o_mod (pv 0) pe_int) (pe_op o_mul pe_int (pv 1))) pe_int) pe_int) pe_int))
      (pss_cons (ps_set (i := 3) sc.nd rfl (.inl rfl) (pe_op o_mod (pe_op o_add (pe_op o_add (pe_op o_mul (pv 2) (pv 2)) (pe_op o_mul pe_int (pv 2))) (pe_op o_mul pe_int (pv 1))) pe_int))
      (pss_one (ps_ret (pe_op o_div (pe_op o_mod (pe_op o_mul (pv 3) (pe_op o_add (pe_op o_mod (pv 3) pe_int) pe_int)) pe_int) pe_int)))))
abbrev s_ltake : Stmt := topS 22
abbrev N_ltake : List Str := ["_law_state", "_law_many", "_law_script", "_law_k", "_law_cell", "_law_found"]
theorem sc_ltake : FnScope N_ltake ["_law_state", "_law_many"] (defScope s_ltake) := ⟨rfl, rfl, rfl, by decide +kernel, rfl, by decide +kernel, by decide +kernel⟩
theorem ok_ltake {f : Addr} {fd : FuncData} (F : Fun K "_law_take" "_law_take" s_ltake f fd) (T : Tx mg) (h_lmixed : Has P w K mg base "_law_mixed" ["_law_cell", "_law_k"] 1 (sp_lmixed K)) : FnOk P w K mg base CX0 2 f fd ["_law_state", "_law_many"] (sp_ltake K) := by
  have sc := sc_ltake
  refine F.ok sc (len_ltake K) (fun cdv A outer s H vs Q E hr h => ⟨t_ltake K, ?_, rd_ltake h⟩)
  exact (pss_cut (ps_if (pt_cmpR op_eq (pe_ix ix_list (pv 0) pe_int (fun _ _ => rfl)) pe_int (nomark _)) (pss_cons (ps_set (i := 2) sc.nd rfl (.inl rfl) (pe_ix ix_list (pv 0) pe_int (fun _ _ => rfl)))
      (pss_cons (ps_set (i := 3) sc.nd rfl (.inl rfl) (pe_ix ix_list (pv 0) pe_int (fun _ _ => rfl)))
      (pss_cons (ps_asg (pe_op o_add (pv 3) pe_int) (pg_sub (pv 0) pe_int set_list))
      (pss_cons (ps_set (i := 4) sc.nd rfl (.inl rfl) pe_int)
      (pss_cut (ps_if (pt_cmpR o_gt (pe_callB cr_len (by rfl) T.b_len (by decide +kernel) (pa_cons (pv 2) pa_nil)) pe_int (nomark _)) (pss_one (ps_set (i := 4) sc.nd rfl (.inl rfl) (pe_ix ix_list (pv 2) (pe_op o_mod (pv 3) (pe_callB cr_len (by rfl) T.b_len (by decide +kernel) (pa_cons (pv 2) pa_nil))) (fun _ _ => rfl)))) pss_nil)
      (pss_cons (ps_if (PW.pt (pw_or (pt_cmpR o_ge (pv 3) (pe_callB cr_len (by rfl) T.b_len (by decide +kernel) (pa_cons (pv 2) pa_nil)) (nomark _)) (pw_or1 (pt_cmpR o_lt (pe_callB cr_abs (by rfl) T.b_abs (by decide +kernel) (pa_cons (pv 4) pa_nil)) (pe_op o_pow pe_int pe_int) (nomark _))))) (pss_one (ps_ret (pe_op o_mod (pe_h h_lmixed (hr.mono (by decide)) (by rfl) (pa_cons (pv 4) (pa_cons (pv 3) pa_nil))) (pv 1)))) pss_nil)
      (pss_one (ps_asg (pe_callB cr_abs (by rfl) T.b_abs (by decide +kernel) (pa_cons (pv 4) pa_nil)) (pg_sub (pv 0) pe_int set_list))))))))) pss_nil)
      (pss_cons (ps_set (i := 5) sc.nd rfl (.inl rfl) (pe_op o_mod (pe_ix ix_list (pv 0) pe_int (fun _ _ => rfl)) (pv 1)))
      (pss_cons (ps_asg (pe_op o_div (pe_ix ix_list (pv 0) pe_int (fun _ _ => rfl)) (pv 1)) (pg_sub (pv 0) pe_int set_list))
      (pss_one (ps_ret (pv 5))))))
abbrev s_lcorners : Stmt := topS 23
abbrev N_lcorners : List Str := ["_law_state", "_law_many", "_law_way", "_law_found", "_law_k", "_law_corner"]
theorem sc_lcorners : FnScope N_lcorners ["_law_state", "_law_many"] (defScope s_lcorners) := ⟨rfl, rfl, rfl, by decide +kernel, rfl, by decide +kernel, by decide +kernel⟩
theorem ok_lcorners {f : Addr} {fd : FuncData} (F : Fun K "_law_corners" "_law_corners" s_lcorners f fd) (T : Tx mg) (h_ltake : Has P w K mg base "_law_take" ["_law_state", "_law_many"] 2 (sp_ltake K)) : FnOk P w K mg base CX0 3 f fd ["_law_state", "_law_many"] (sp_lcorners K) := by
  have sc := sc_lcorners
  refine F.ok sc (len_lcorners K) (fun cdv A outer s H vs Q E hr h => ⟨t_lcorners K, ?_, rd_lcorners h⟩)
  exact (pss_cons (ps_set (i := 2) sc.nd rfl (.inl rfl) (pe_h h_ltake (hr.mono (by decide)) (by rfl) (pa_cons (pv 0) (pa_cons pe_int pa_nil))))
      (pss_cons (ps_set (i := 3) sc.nd rfl (.inl rfl) (pe_lst pa_nil))
      (pss_cons (ps_for PassesOwn.never rfl (pi_range1 (by rfl) T.b_range (pa_cons (pv 1) pa_nil)) (pg_name (i := 4) sc.nd rfl (.inl rfl))
      (pss_cons (ps_set (i := 5) sc.nd rfl (.inl rfl) (pe_ix ix_list (pe_lst (pa_cons (pv 4) (pa_cons (pe_op o_sub (pv 4) (pe_op o_div (pv 1) pe_int)) (pa_cons (pe_op o_sub (pe_op o_sub (pe_op o_pow pe_int pe_int) pe_int) (pv 4)) (pa_cons (pe_op o_add (pe_op o_mulW (pe_op o_sub (pv 4) (pe_op o_div (pv 1) pe_int)) (pe_op o_pow pe_int pe_int)) (pv 4)) pa_nil))))) (pv 2) (fun _ _ => rfl)))
      (pss_one (ps_expr (pe_bm PySem.F.plainAttrs_list PySem.F.slot_list_insert PySem.F.type_list_insert mt_ins (pv 3) (pa_cons (pe_h h_ltake (hr.mono (by decide)) (by rfl) (pa_cons (pv 0) (pa_cons (pe_op o_add (pe_callB cr_len (by rfl) T.b_len (by decide +kernel) (pa_cons (pv 3) pa_nil)) pe_int) pa_nil))) (pa_cons (pv 5) pa_nil)))))))
      (pss_one (ps_ret (pv 3))))))
abbrev s_lorder : Stmt := topS 24
abbrev N_lorder : List Str := ["_law_state", "_law_many", "_law_found", "_law_k"]
theorem sc_lorder : FnScope N_lorder ["_law_state", "_law_many"] (defScope s_lorder) := ⟨rfl, rfl, rfl, by decide +kernel, rfl, by decide +kernel, by decide +kernel⟩
theorem ok_lorder {f : Addr} {fd : FuncData} (F : Fun K "_law_order" "_law_order" s_lorder f fd) (T : Tx mg) (h_ltake : Has P w K mg base "_law_take" ["_law_state", "_law_many"] 2 (sp_ltake K)) : FnOk P w K mg base CX0 3 f fd ["_law_state", "_law_many"] (sp_lorder K) := by
  have sc := sc_lorder
  refine F.ok sc (len_lorder K) (fun cdv A outer s H vs Q E hr h => ⟨t_lorder K, ?_, rd_lorder h⟩)
  exact (pss_cons (ps_set (i := 2) sc.nd rfl (.inl rfl) (pe_lst pa_nil))
      (pss_cons (ps_for PassesOwn.never rfl (pi_range1 (by rfl) T.b_range (pa_cons (pv 1) pa_nil)) (pg_name (i := 3) sc.nd rfl (.inl rfl))
      (pss_one (ps_expr (pe_bm PySem.F.plainAttrs_list PySem.F.slot_list_insert PySem.F.type_list_insert mt_ins (pv 2) (pa_cons (pe_h h_ltake (hr.mono (by decide)) (by rfl) (pa_cons (pv 0) (pa_cons (pe_op o_add (pv 3) pe_int) pa_nil))) (pa_cons (pv 3) pa_nil))))))
      (pss_one (ps_ret (pv 2)))))
abbrev s_lless : Stmt := topS 25
abbrev N_lless : List Str := ["_law_piece", "_law_face", "_law_corner"]
theorem sc_lless : FnScope N_lless ["_law_piece", "_law_face"] (defScope s_lless) := ⟨rfl, rfl, rfl, by decide +kernel, rfl, by decide +kernel, by decide +kernel⟩
theorem ok_lless {f : Addr} {fd : FuncData} (F : Fun K "_law_less" "_law_less" s_lless f fd) (T : Tx mg) : FnOk P w K mg base CX0 1 f fd ["_law_piece", "_law_face"] (sp_lless K) := by
  have sc := sc_lless
  refine F.ok sc (len_lless K) (fun cdv A outer s H vs Q E hr h => ⟨t_lless K, ?_, rd_lless h⟩)
  exact (pss_one (ps_ret (pe_callTy cr_tuple (by rfl) T.b_tuple (by decide +kernel) (pa_cons (pe_lc (own := [("_law_corner", 2)]) (by rfl) sc.nd (pi_tup (pv 0)) (blkOk_by (own := [("_law_corner", 2)]) (N := N_lless) (sc := defScope s_lless) (by decide +kernel)) (fun _ _ _ _ _ => (pg_name (i := 2) sc.nd rfl (by first | exact .inl rfl | exact .inr rfl))) (fun _ _ _ _ _ => (pts_one (pt_cmpR op_notIn_seq (pv 2) (pv 1) (by rfl)))) (fun _ _ _ _ _ => (pv 2))) pa_nil))))
abbrev s_lput : Stmt := topS 26
abbrev N_lput : List Str := ["_law_there", "_law_piece", "_law_corner"]
theorem sc_lput : FnScope N_lput ["_law_there", "_law_piece"] (defScope s_lput) := ⟨rfl, rfl, rfl, by decide +kernel, rfl, by decide +kernel, by decide +kernel⟩
theorem ok_lput {f : Addr} {fd : FuncData} (F : Fun K "_law_put" "_law_put" s_lput f fd) (T : Tx mg) (h_lless : Has P w K mg base "_law_less" ["_law_piece", "_law_face"] 1 (sp_lless K)) : FnOk P w K mg base CX0 2 f fd ["_law_there", "_law_piece"] (sp_lput K) := by
  have sc := sc_lput
  refine F.ok sc (len_lput K) (fun cdv A outer s H vs Q E hr h => ⟨t_lput K, ?_, rd_lput h⟩)
  exact (pss_one (ps_for PassesOwn.never rfl (pi_tup (pv 1)) (pg_name (i := 2) sc.nd rfl (.inl rfl))
      (pss_one (ps_asg pe_bl (pg_sub (pv 0) (pe_h h_lless (hr.mono (by decide)) (by rfl) (pa_cons (pv 1) (pa_cons (pe_tup (pa_cons (pv 2) pa_nil)) pa_nil))) (set_dict (units1 hr)))))))
abbrev s_lbrings : Stmt := topS 27
abbrev N_lbrings : List Str := ["_law_ahead", "_law_there", "_law_piece", "_law_found", "_law_other", "_law_corner"]
theorem sc_lbrings : FnScope N_lbrings ["_law_ahead", "_law_there", "_law_piece"] (defScope s_lbrings) := ⟨rfl, rfl, rfl, by decide +kernel, rfl, by decide +kernel, by decide +kernel⟩
theorem ok_lbrings {f : Addr} {fd : FuncData} (F : Fun K "_law_brings" "_law_brings" s_lbrings f fd) (T : Tx mg) (h_lless : Has P w K mg base "_law_less" ["_law_piece", "_law_face"] 1 (sp_lless K)) : FnOk P w K mg base CX0 2 f fd ["_law_ahead", "_law_there", "_law_piece"] (sp_lbrings K) := by
  have sc := sc_lbrings
  refine F.ok sc (len_lbrings K) (fun cdv A outer s H vs Q E hr h => ⟨t_lbrings K, ?_, rd_lbrings h⟩)
  exact (pss_cons (ps_set (i := 3) sc.nd rfl (.inl rfl) (pe_callTy cr_tuple (by rfl) T.b_tuple (by decide +kernel) (pa_cons (pe_lc (own := [("_law_corner", 5)]) (by rfl) sc.nd (pi_tup (pv 2)) (blkOk_by (own := [("_law_corner", 5)]) (N := N_lbrings) (sc := defScope s_lbrings) (by decide +kernel)) (fun _ _ _ _ _ => (pg_name (i := 5) sc.nd rfl (by first | exact .inl rfl | exact .inr rfl))) (fun _ _ _ _ _ => (pts_one (pt_cmp (pc_din (units1 hr) (pe_h h_lless (hr.mono (by decide)) (by rfl) (pa_cons (pv 2) (pa_cons (pe_tup (pa_cons (pv 5) pa_nil)) pa_nil))) (pv 1))))) (fun _ _ _ _ _ => (pv 5))) pa_nil)))
      (pss_cons (ps_for PassesOwn.never rfl (pi_list (pv 0)) (pg_name (i := 4) sc.nd rfl (.inr rfl))
      (pss_one (ps_if (pt_cmpR (op_eqD hr.units) (pe_lc (own := [("_law_corner", 5)]) (by rfl) sc.nd (pi_tup (pv 3)) (blkOk_by (own := [("_law_corner", 5)]) (N := N_lbrings) (sc := defScope s_lbrings) (by decide +kernel)) (fun _ _ _ _ _ => (pg_name (i := 5) sc.nd rfl (by first | exact .inl rfl | exact .inr rfl))) (fun _ _ _ _ _ => (pts_one (pt_cmpR op_notIn_seq (pv 5) (pv 4) (by rfl)))) (fun _ _ _ _ _ => (pv 5))) (pe_lst pa_nil) (nomark _)) (pss_one (ps_ret pe_non)) pss_nil)))
      (pss_one (ps_ret (pv 3)))))
abbrev s_lgrown : Stmt := topS 28
abbrev N_lgrown : List Str := ["_law_state", "_law_names", "_law_size", "_law_most", "_law_pieces", "_law_there", "_law_turn", "_law_base", "_law_out", "_law_corner", "_law_piece"]
theorem sc_lgrown : FnScope N_lgrown ["_law_state", "_law_names", "_law_size", "_law_most"] (defScope s_lgrown) := ⟨rfl, rfl, rfl, by decide +kernel, rfl, by decide +kernel, by decide +kernel⟩
theorem ok_lgrown {f : Addr} {fd : FuncData} (F : Fun K "_law_grown" "_law_grown" s_lgrown f fd) (T : Tx mg) (h_lput : Has P w K mg base "_law_put" ["_law_there", "_law_piece"] 2 (sp_lput K)) (h_ltake : Has P w K mg base "_law_take" ["_law_state", "_law_many"] 2 (sp_ltake K)) (h_lless : Has P w K mg base "_law_less" ["_law_piece", "_law_face"] 1 (sp_lless K)) (h_lbrings : Has P w K mg base "_law_brings" ["_law_ahead", "_law_there", "_law_piece"] 2 (sp_lbrings K)) : FnOk P w K mg base CX0 3 f fd ["_law_state", "_law_names", "_law_size", "_law_most"] (sp_lgrown K) := by
  have sc := sc_lgrown
  refine F.ok sc (len_lgrown K) (fun cdv A outer s H vs Q E hr h => ⟨t_lgrown K, ?_, rd_lgrown h⟩)
  exact (pss_cons (ps_set (i := 4) sc.nd rfl (.inl rfl) (pe_lst (pa_cons (pe_callTy cr_tuple (by rfl) T.b_tuple (by decide +kernel) (pa_cons (pe_callB cr_sortedI (by rfl) T.b_sorted (by decide +kernel) (pa_cons (pe_slice sl_list (pv 1) po_none (po_some (pv 2))) pa_nil)) pa_nil)) pa_nil)))
      (pss_cons (ps_set (i := 5) sc.nd rfl (.inl rfl) pe_dnewT)
      (pss_cons (ps_expr (pe_h h_lput (hr.mono (by decide)) (by rfl) (pa_cons (pv 5) (pa_cons (pe_ix ix_list (pv 4) pe_int (fun _ _ => rfl)) pa_nil))))
      (pss_cons (ps_for PassesOwn.never rfl (pi_range1 (by rfl) T.b_range (pa_cons (pe_h h_ltake (hr.mono (by decide)) (by rfl) (pa_cons (pv 0) (pa_cons (pe_op o_mul pe_int (pv 3)) pa_nil))) pa_nil)) (pg_name (i := 6) sc.nd rfl (.inl rfl))
      (pss_cons (ps_set (i := 7) sc.nd rfl (.inl rfl) (pe_ix ix_list (pv 4) (pe_h h_ltake (hr.mono (by decide)) (by rfl) (pa_cons (pv 0) (pa_cons (pe_callB cr_len (by rfl) T.b_len (by decide +kernel) (pa_cons (pv 4) pa_nil)) pa_nil))) (fun _ _ => rfl)))
      (pss_cons (ps_set (i := 8) sc.nd rfl (.inl rfl) (pe_ix ix_tup (pv 7) (pe_h h_ltake (hr.mono (by decide)) (by rfl) (pa_cons (pv 0) (pa_cons (pv 2) pa_nil))) (fun _ _ => rfl)))
      (pss_cons (ps_set (i := 9) sc.nd rfl (.inl rfl) (pe_ix ix_list (pv 1) (pe_h h_ltake (hr.mono (by decide)) (by rfl) (pa_cons (pv 0) (pa_cons (pe_callB cr_len (by rfl) T.b_len (by decide +kernel) (pa_cons (pv 1) pa_nil)) pa_nil))) (fun _ _ => rfl)))
      (pss_cons (ps_set (i := 10) sc.nd rfl (.inl rfl) (pe_callTy cr_tuple (by rfl) T.b_tuple (by decide +kernel) (pa_cons (pe_callB (cr_sortTI hr.units) (by rfl) T.b_sorted (by decide +kernel) (pa_cons (pe_op op_catA (pe_h h_lless (hr.mono (by decide)) (by rfl) (pa_cons (pv 7) (pa_cons (pe_tup (pa_cons (pv 8) pa_nil)) pa_nil))) (pe_tup (pa_cons (pv 9) pa_nil))) pa_nil)) pa_nil)))
      (pss_one (ps_if (PW.pt (pw_and (pt_cmpR op_notIn_seq (pv 9) (pv 7) (by rfl)) (pw_and (pt_cmpR o_lt (pe_callB cr_len (by rfl) T.b_len (by decide +kernel) (pa_cons (pv 4) pa_nil)) (pv 3) (nomark _)) (pw_and1 (pt_cmpR op_notN1 (pe_h h_lbrings (hr.mono (by decide)) (by rfl) (pa_cons (pv 4) (pa_cons (pv 5) (pa_cons (pv 10) pa_nil)))) pe_non (nomark _)))))) (pss_cons (ps_expr (pe_bm PySem.F.plainAttrs_list PySem.F.slot_list_append PySem.F.type_list_append mt_append (pv 4) (pa_cons (pv 10) pa_nil)))
      (pss_one (ps_expr (pe_h h_lput (hr.mono (by decide)) (by rfl) (pa_cons (pv 5) (pa_cons (pv 10) pa_nil)))))) pss_nil)))))))
      (pss_one (ps_ret (pv 4)))))))
abbrev s_lany : Stmt := topS 29
abbrev N_lany : List Str := ["_law_state", "_law_names", "_law_size", "_law_most", "_law_found", "_law_turn", "_law_rest", "_law_piece", "_law_k", "_law_one"]
theorem sc_lany : FnScope N_lany ["_law_state", "_law_names", "_law_size", "_law_most"] (defScope s_lany) := ⟨rfl, rfl, rfl, by decide +kernel, rfl, by decide +kernel, by decide +kernel⟩
theorem ok_lany {f : Addr} {fd : FuncData} (F : Fun K "_law_any" "_law_any" s_lany f fd) (T : Tx mg) (h_ltake : Has P w K mg base "_law_take" ["_law_state", "_law_many"] 2 (sp_ltake K)) : FnOk P w K mg base CX0 3 f fd ["_law_state", "_law_names", "_law_size", "_law_most"] (sp_lany K) := by
  have sc := sc_lany
  refine F.ok sc (len_lany K) (fun cdv A outer s H vs Q E hr h => ⟨t_lany K, ?_, rd_lany h⟩)
  exact (pss_cons (ps_set (i := 4) sc.nd rfl (.inl rfl) (pe_lst pa_nil))
      (pss_cons (ps_for PassesOwn.never rfl (pi_range1 (by rfl) T.b_range (pa_cons (pe_op o_add pe_int (pe_h h_ltake (hr.mono (by decide)) (by rfl) (pa_cons (pv 0) (pa_cons (pv 3) pa_nil)))) pa_nil)) (pg_name (i := 5) sc.nd rfl (.inl rfl))
      (pss_cons (ps_set (i := 6) sc.nd rfl (.inl rfl) (pe_callTy cr_list (by rfl) T.b_list (by decide +kernel) (pa_cons (pv 1) pa_nil)))
      (pss_cons (ps_set (i := 7) sc.nd rfl (.inl rfl) (pe_lst pa_nil))
      (pss_cons (ps_for PassesOwn.never rfl (pi_range1 (by rfl) T.b_range (pa_cons (pv 2) pa_nil)) (pg_name (i := 8) sc.nd rfl (.inl rfl))
      (pss_one (ps_expr (pe_bm PySem.F.plainAttrs_list PySem.F.slot_list_append PySem.F.type_list_append mt_append (pv 7) (pa_cons (pe_bm PySem.F.plainAttrs_list PySem.F.slot_list_pop PySem.F.type_list_pop mt_popAt (pv 6) (pa_cons (pe_h h_ltake (hr.mono (by decide)) (by rfl) (pa_cons (pv 0) (pa_cons (pe_callB cr_len (by rfl) T.b_len (by decide +kernel) (pa_cons (pv 6) pa_nil)) pa_nil))) pa_nil)) pa_nil)))))
      (pss_one (ps_if (pt_cmpR (op_notInD (units65 hr)) (pe_callB cr_sortedI (by rfl) T.b_sorted (by decide +kernel) (pa_cons (pv 7) pa_nil)) (pe_lc (own := [("_law_one", 9)]) (by rfl) sc.nd (pi_list (pv 4)) (blkOk_by (own := [("_law_one", 9)]) (N := N_lany) (sc := defScope s_lany) (by decide +kernel)) (fun _ _ _ _ _ => (pg_name (i := 9) sc.nd rfl (by first | exact .inl rfl | exact .inr rfl))) (fun _ _ _ _ _ => pts_nil) (fun _ _ _ _ _ => (pe_callTy cr_list (by rfl) T.b_list (by decide +kernel) (pa_cons (pv 9) pa_nil)))) (by rfl)) (pss_one (ps_expr (pe_bm PySem.F.plainAttrs_list PySem.F.slot_list_append PySem.F.type_list_append mt_append (pv 4) (pa_cons (pe_callTy cr_tuple (by rfl) T.b_tuple (by decide +kernel) (pa_cons (pe_callB cr_sortedI (by rfl) T.b_sorted (by decide +kernel) (pa_cons (pv 7) pa_nil)) pa_nil)) pa_nil)))) pss_nil))))))
      (pss_one (ps_ret (pe_callTy cr_tuple (by rfl) T.b_tuple (by decide +kernel) (pa_cons (pv 4) pa_nil))))))
abbrev s_lshape : Stmt := topS 30
abbrev N_lshape : List Str := ["_law_state", "_law_size", "_law_names", "_law_most", "_law_pieces", "_law_k"]
theorem sc_lshape : FnScope N_lshape ["_law_state"] (defScope s_lshape) := ⟨rfl, rfl, rfl, by decide +kernel, rfl, by decide +kernel, by decide +kernel⟩
theorem ok_lshape {f : Addr} {fd : FuncData} (F : Fun K "_law_shape" "_law_shape" s_lshape f fd) (T : Tx mg) (h_ltake : Has P w K mg base "_law_take" ["_law_state", "_law_many"] 2 (sp_ltake K)) (h_lcorners : Has P w K mg base "_law_corners" ["_law_state", "_law_many"] 3 (sp_lcorners K)) (h_lany : Has P w K mg base "_law_any" ["_law_state", "_law_names", "_law_size", "_law_most"] 3 (sp_lany K)) (h_lgrown : Has P w K mg base "_law_grown" ["_law_state", "_law_names", "_law_size", "_law_most"] 3 (sp_lgrown K)) (h_lorder : Has P w K mg base "_law_order" ["_law_state", "_law_many"] 3 (sp_lorder K)) : FnOk P w K mg base CX0 4 f fd ["_law_state"] (sp_lshape K) := by
  have sc := sc_lshape
  refine F.ok sc (len_lshape K) (fun cdv A outer s H vs Q E hr h => ⟨t_lshape K, ?_, rd_lshape h⟩)
  exact (pss_cons (ps_set (i := 1) sc.nd rfl (.inl rfl) (pe_op o_add pe_int (pe_h h_ltake (hr.mono (by decide)) (by rfl) (pa_cons (pv 0) (pa_cons pe_int pa_nil)))))
      (pss_cons (ps_set (i := 2) sc.nd rfl (.inl rfl) (pe_h h_lcorners (hr.mono (by decide)) (by rfl) (pa_cons (pv 0) (pa_cons (pe_op o_add (pe_op o_add (pv 1) pe_int) (pe_h h_ltake (hr.mono (by decide)) (by rfl) (pa_cons (pv 0) (pa_cons pe_int pa_nil)))) pa_nil))))
      (pss_cons (ps_set (i := 3) sc.nd rfl (.inl rfl) (pe_ix ix_list (pe_lst (pa_cons pe_int (pa_cons pe_int (pa_cons pe_int (pa_cons pe_int pa_nil))))) (pe_h h_ltake (hr.mono (by decide)) (by rfl) (pa_cons (pv 0) (pa_cons pe_int pa_nil))) (fun _ _ => rfl)))
      (pss_cons (ps_if (pt_cmpR op_eq (pe_h h_ltake (hr.mono (by decide)) (by rfl) (pa_cons (pv 0) (pa_cons pe_int pa_nil))) pe_int (nomark _)) (pss_one (ps_ret (pe_tup (pa_cons (pe_h h_lany (hr.mono (by decide)) (by rfl) (pa_cons (pv 0) (pa_cons (pv 2) (pa_cons (pv 1) (pa_cons (pv 3) pa_nil))))) (pa_cons (pv 2) pa_nil))))) pss_nil)
      (pss_cons (ps_set (i := 4) sc.nd rfl (.inr rfl) (pe_h h_lgrown (hr.mono (by decide)) (by rfl) (pa_cons (pv 0) (pa_cons (pv 2) (pa_cons (pv 1) (pa_cons (pv 3) pa_nil))))))
      (pss_one (ps_ret (pe_tup (pa_cons (pe_callTy cr_tuple (by rfl) T.b_tuple (by decide +kernel) (pa_cons (pe_lc (own := [("_law_k", 5)]) (by rfl) sc.nd (pi_list (pe_h h_lorder (hr.mono (by decide)) (by rfl) (pa_cons (pv 0) (pa_cons (pe_callB cr_len (by rfl) T.b_len (by decide +kernel) (pa_cons (pv 4) pa_nil)) pa_nil)))) (blkOk_by (own := [("_law_k", 5)]) (N := N_lshape) (sc := defScope s_lshape) (by decide +kernel)) (fun _ _ _ _ _ => (pg_name (i := 5) sc.nd rfl (by first | exact .inl rfl | exact .inr rfl))) (fun _ _ _ _ _ => pts_nil) (fun _ _ _ _ _ => (pe_ix ix_list (pv 4) (pv 5) (fun _ _ => rfl)))) pa_nil)) (pa_cons (pv 2) pa_nil))))))))))
abbrev s_lrows : Stmt := topS 31
abbrev N_lrows : List Str := ["_law_shape_here", "_law_order_here", "_law_found", "_law_ahead", "_law_there", "_law_number"]
theorem sc_lrows : FnScope N_lrows ["_law_shape_here", "_law_order_here"] (defScope s_lrows) := ⟨rfl, rfl, rfl, by decide +kernel, rfl, by decide +kernel, by decide +kernel⟩
theorem ok_lrows {f : Addr} {fd : FuncData} (F : Fun K "_law_rows" "_law_rows" s_lrows f fd) (T : Tx mg) (h_lbrings : Has P w K mg base "_law_brings" ["_law_ahead", "_law_there", "_law_piece"] 2 (sp_lbrings K)) (h_lput : Has P w K mg base "_law_put" ["_law_there", "_law_piece"] 2 (sp_lput K)) : FnOk P w K mg base CX0 3 f fd ["_law_shape_here", "_law_order_here"] (sp_lrows K) := by
  have sc := sc_lrows
  refine F.ok sc (len_lrows K) (fun cdv A outer s H vs Q E hr h => ⟨t_lrows K, ?_, rd_lrows h⟩)
  exact (pss_cons (ps_set (i := 2) sc.nd rfl (.inl rfl) (pe_lst pa_nil))
      (pss_cons (ps_set (i := 3) sc.nd rfl (.inl rfl) (pe_lst pa_nil))
      (pss_cons (ps_set (i := 4) sc.nd rfl (.inl rfl) pe_dnewT)
      (pss_cons (ps_for PassesOwn.never rfl (pi_list (pv 1)) (pg_name (i := 5) sc.nd rfl (.inl rfl))
      (pss_cons (ps_expr (pe_bm PySem.F.plainAttrs_list PySem.F.slot_list_append PySem.F.type_list_append mt_append (pv 2) (pa_cons (pe_tup (pa_cons (pv 5) (pa_cons (pe_h h_lbrings (hr.mono (by decide)) (by rfl) (pa_cons (pv 3) (pa_cons (pv 4) (pa_cons (pe_ix ix_tup (pv 0) (pv 5) (fun _ _ => rfl)) pa_nil)))) pa_nil))) pa_nil)))
      (pss_cons (ps_expr (pe_bm PySem.F.plainAttrs_list PySem.F.slot_list_append PySem.F.type_list_append mt_append (pv 3) (pa_cons (pe_ix ix_tup (pv 0) (pv 5) (fun _ _ => rfl)) pa_nil)))
      (pss_one (ps_expr (pe_h h_lput (hr.mono (by decide)) (by rfl) (pa_cons (pv 4) (pa_cons (pe_ix ix_tup (pv 0) (pv 5) (fun _ _ => rfl)) pa_nil))))))))
      (pss_one (ps_ret (pv 2)))))))
abbrev s_lnumbered : Stmt := topS 32
abbrev N_lnumbered : List Str := ["_law_state", "_law_pieces", "_law_spots", "_law_shape_here", "_law_k"]
theorem sc_lnumbered : FnScope N_lnumbered ["_law_state", "_law_pieces"] (defScope s_lnumbered) := ⟨rfl, rfl, rfl, by decide +kernel, rfl, by decide +kernel, by decide +kernel⟩
theorem ok_lnumbered {f : Addr} {fd : FuncData} (F : Fun K "_law_numbered" "_law_numbered" s_lnumbered f fd) (T : Tx mg) (h_lorder : Has P w K mg base "_law_order" ["_law_state", "_law_many"] 3 (sp_lorder K)) (h_lrows : Has P w K mg base "_law_rows" ["_law_shape_here", "_law_order_here"] 3 (sp_lrows K)) : FnOk P w K mg base CX0 4 f fd ["_law_state", "_law_pieces"] (sp_lnumbered K) := by
  have sc := sc_lnumbered
  refine F.ok sc (len_lnumbered K) (fun cdv A outer s H vs Q E hr h => ⟨t_lnumbered K, ?_, rd_lnumbered h⟩)
  exact (pss_cons (ps_set (i := 2) sc.nd rfl (.inr rfl) (pe_h h_lorder (hr.mono (by decide)) (by rfl) (pa_cons (pv 0) (pa_cons (pe_callB cr_len (by rfl) T.b_len (by decide +kernel) (pa_cons (pv 1) pa_nil)) pa_nil))))
      (pss_cons (ps_set (i := 3) sc.nd rfl (.inl rfl) (pe_callTy cr_tuple (by rfl) T.b_tuple (by decide +kernel) (pa_cons (pe_lc (own := [("_law_k", 4)]) (by rfl) sc.nd (pi_list (pv 2)) (blkOk_by (own := [("_law_k", 4)]) (N := N_lnumbered) (sc := defScope s_lnumbered) (by decide +kernel)) (fun _ _ _ _ _ => (pg_name (i := 4) sc.nd rfl (by first | exact .inl rfl | exact .inr rfl))) (fun _ _ _ _ _ => pts_nil) (fun _ _ _ _ _ => (pe_ix ix_list (pv 1) (pv 4) (fun _ _ => rfl)))) pa_nil)))
      (pss_one (ps_ret (pe_tup (pa_cons (pv 3) (pa_cons (pe_h h_lrows (hr.mono (by decide)) (by rfl) (pa_cons (pv 3) (pa_cons (pe_lc (own := [("_law_k", 4)]) (by rfl) sc.nd (pi_range1 (by rfl) T.b_range (pa_cons (pe_callB cr_len (by rfl) T.b_len (by decide +kernel) (pa_cons (pv 1) pa_nil)) pa_nil)) (blkOk_by (own := [("_law_k", 4)]) (N := N_lnumbered) (sc := defScope s_lnumbered) (by decide +kernel)) (fun _ _ _ _ _ => (pg_name (i := 4) sc.nd rfl (by first | exact .inl rfl | exact .inr rfl))) (fun _ _ _ _ _ => pts_nil) (fun _ _ _ _ _ => (pe_bm PySem.F.plainAttrs_list PySem.F.slot_list_index PySem.F.type_list_index mt_index (pv 2) (pa_cons (pv 4) pa_nil)))) pa_nil))) pa_nil)))))))
abbrev s_llaid : Stmt := topS 33
abbrev N_llaid : List Str := ["_law_state", "_law_size", "_law_most", "_law_names"]
theorem sc_llaid : FnScope N_llaid ["_law_state", "_law_size", "_law_most"] (defScope s_llaid) := ⟨rfl, rfl, rfl, by decide +kernel, rfl, by decide +kernel, by decide +kernel⟩
theorem ok_llaid {f : Addr} {fd : FuncData} (F : Fun K "_law_laid" "_law_laid" s_llaid f fd) (T : Tx mg) (h_ltake : Has P w K mg base "_law_take" ["_law_state", "_law_many"] 2 (sp_ltake K)) (h_lcorners : Has P w K mg base "_law_corners" ["_law_state", "_law_many"] 3 (sp_lcorners K)) (h_lgrown : Has P w K mg base "_law_grown" ["_law_state", "_law_names", "_law_size", "_law_most"] 3 (sp_lgrown K)) (h_lnumbered : Has P w K mg base "_law_numbered" ["_law_state", "_law_pieces"] 4 (sp_lnumbered K)) : FnOk P w K mg base CX0 5 f fd ["_law_state", "_law_size", "_law_most"] (sp_llaid K) := by
  have sc := sc_llaid
  refine F.ok sc (len_llaid K) (fun cdv A outer s H vs Q E hr h => ⟨t_llaid K, ?_, rd_llaid h⟩)
  exact (pss_cons (ps_set (i := 3) sc.nd rfl (.inl rfl) (pe_h h_lcorners (hr.mono (by decide)) (by rfl) (pa_cons (pv 0) (pa_cons (pe_op o_add (pe_op o_add (pv 1) pe_int) (pe_h h_ltake (hr.mono (by decide)) (by rfl) (pa_cons (pv 0) (pa_cons pe_int pa_nil)))) pa_nil))))
      (pss_one (ps_ret (pe_op op_catA (pe_h h_lnumbered (hr.mono (by decide)) (by rfl) (pa_cons (pv 0) (pa_cons (pe_h h_lgrown (hr.mono (by decide)) (by rfl) (pa_cons (pv 0) (pa_cons (pv 3) (pa_cons (pv 1) (pa_cons (pv 2) pa_nil))))) pa_nil))) (pe_tup (pa_cons (pv 3) pa_nil))))))
abbrev s_lword : Stmt := topS 34
abbrev N_lword : List Str := ["_law_caught", "_law_words", "_law_marks", "_law_some", "_law_others", "_law_k"]
theorem sc_lword : FnScope N_lword ["_law_caught"] (defScope s_lword) := ⟨rfl, rfl, rfl, by decide +kernel, rfl, by decide +kernel, by decide +kernel⟩
theorem ok_lword {f : Addr} {fd : FuncData} (F : Fun K "_law_word" "_law_word" s_lword f fd) (T : Tx mg) {cx : Str → Addr} (Y : Tc K cx mg) : FnOk P w K mg base CX0 1 f fd ["_law_caught"] (sp_lword K cx) := by
  have sc := sc_lword
  refine F.ok sc (len_lword K cx) (fun cdv A outer s H vs Q E hr h => ⟨t_lword K cx, ?_, rd_lword Y.xk h⟩)
  exact (pss_cons (ps_set (i := 1) sc.nd rfl (.inr rfl) (pe_lst (pa_cons pe_str (pa_cons pe_str (pa_cons pe_str (pa_cons pe_str (pa_cons pe_str (pa_cons pe_str pa_nil))))))))
      (pss_cons (ps_set (i := 2) sc.nd rfl (.inr rfl) (pe_lst (pa_cons (pe_callB call_isX (by rfl) T.b_isinstance (by decide +kernel) (pa_cons (pv 0) (pa_cons (pe_glob (by rfl) Y.x_NoShape rfl) pa_nil))) (pa_cons (pe_callB call_isX (by rfl) T.b_isinstance (by decide +kernel) (pa_cons (pv 0) (pa_cons (pe_glob (by rfl) Y.x_NoFace rfl) pa_nil))) (pa_cons (pe_callB call_isX (by rfl) T.b_isinstance (by decide +kernel) (pa_cons (pv 0) (pa_cons (pe_glob (by rfl) Y.x_NoPiece rfl) pa_nil))) pa_nil)))))
      (pss_cons (ps_set (i := 2) sc.nd rfl (.inr rfl) (pe_op op_cat (pv 2) (pe_lst (pa_cons (pe_callB call_isX (by rfl) T.b_isinstance (by decide +kernel) (pa_cons (pv 0) (pa_cons (pe_glob (by rfl) Y.x_NoCorner rfl) pa_nil))) (pa_cons (pe_callB call_isX (by rfl) T.b_isinstance (by decide +kernel) (pa_cons (pv 0) (pa_cons (pe_glob (by rfl) Y.x_NotClosed rfl) pa_nil))) (pa_cons (pe_callB call_isX (by rfl) T.b_isinstance (by decide +kernel) (pa_cons (pv 0) (pa_cons (pe_glob (by rfl) Y.x_TooMany rfl) pa_nil))) pa_nil))))))
      (pss_cons (ps_setLc (i := 3) (own := [("_law_k", 5)]) (by rfl) sc.nd rfl rfl (sw_true rfl rfl rfl (by decide +kernel)) (pi_range1 (by rfl) T.b_range (pa_cons pe_int pa_nil)) (blkOk_by (own := [("_law_k", 5)]) (N := N_lword) (sc := defScope s_lword) (by decide +kernel)) (fun _ _ _ _ _ => (pg_name (i := 5) sc.nd rfl (by first | exact .inl rfl | exact .inr rfl))) (fun _ _ _ _ _ => (pts_one (pt_val (pe_ix ix_list (pv 2) (pv 5) (fun _ _ => rfl))))) (fun _ _ _ _ _ => (pe_ix ix_list (pv 1) (pv 5) (fun _ _ => rfl))))
      (pss_cons (ps_set (i := 4) sc.nd rfl (.inl rfl) (pe_callB call_isXT (by rfl) T.b_isinstance (by decide +kernel) (pa_cons (pv 0) (pa_cons (pe_tup (pa_cons (pe_glob (by rfl) Y.x_NoOrder rfl) (pa_cons (pe_glob (by rfl) Y.x_NoWish rfl) (pa_cons (pe_glob (by rfl) Y.x_NoFit rfl) (pa_cons (pe_glob (by rfl) Y.x_NoShrink rfl) (pa_cons (pe_glob (by rfl) Y.x_NoText rfl) (pa_cons (pe_glob (by rfl) Y.x_NoRow rfl) (pa_cons (pe_glob (by rfl) Y.x_NoName rfl) pa_nil)))))))) pa_nil))))
      (pss_cons (ps_if (PW.pt (pw_or (pt_cmpR op_ne (pe_callB cr_len (by rfl) T.b_len (by decide +kernel) (pa_cons (pv 3) pa_nil)) pe_int (nomark _)) (pw_or (pt_val (pv 4)) (pw_or1 (pt_not (pt_val (pe_callB call_isX (by rfl) T.b_isinstance (by decide +kernel) (pa_cons (pv 0) (pa_cons (pe_bltn (v := .ty "ValueError") (u := .type "ValueError") (by rfl) T.b_ValueError (by decide +kernel) rfl) pa_nil))))))))) (pss_one (ps_ret pe_str)) pss_nil)
      (pss_one (ps_ret (pe_ix ix_list (pv 3) pe_int (fun _ _ => rfl))))))))))
abbrev s_ltold : Stmt := topS 35
abbrev N_ltold : List Str := ["_law_asked", "_law_caught", "_law_found", "e"]
theorem sc_ltold : FnScope N_ltold ["_law_asked"] (defScope s_ltold) := ⟨rfl, rfl, rfl, by decide +kernel, rfl, by decide +kernel, by decide +kernel⟩
theorem gv_ltold {f0 : Addr} {fd : FuncData} (F : Fun K "_law_told" "_law_told" s_ltold f0 fd) (T : Tx mg) {cx : Str → Addr} (Y : Tc K cx mg) (h_lword : Has P w K mg base "_law_word" ["_law_caught"] 1 (sp_lword K cx)) (hm : mg "_law_told" = some (.ref f0)) (hb : L2.Binds K fd ["_law_asked"] []) : GivT P w K mg base 4 "_law_told" "_law_asked" (tt_ltold K cx) := by
  have sc := sc_ltold
  obtain ⟨oc, od, kV, doc, pm, an, cdv, ct, osl, rfl, lk, hcd⟩ := F.ex
  refine ⟨f0, _, _, _, _, kV, doc, pm, cdv, ct, oc, an, od, osl, N_ltold, hm, F.kp, lk, hcd, hb, sc, rfl, .inl rfl, fun q A outer f c' s H Q tl hr act h => ⟨t_ltold K cx q f c' tl, ?_, rd_ltold Y.xk h⟩⟩
  exact (pss_cons (ps_set (i := 1) sc.nd rfl (.inl rfl) pe_non)
      (pss_cons (ps_set (i := 2) sc.nd rfl (.inl rfl) pe_non)
      (pss_cons (ps_try_keep (X := (cxOf CX0 P w K mg base N_ltold "_law_told" (defScope s_ltold) f0 cdv A outer s H E0).nox) rfl rfl rfl sc.nd (i := 3) rfl rfl ⟨by rfl, by decide, .inl Y.x_SideError⟩ (fun W pn xe tk po => (pss_one (ps_set (i := 2) sc.nd rfl (.inl rfl) (act W pn xe _ _ tk)))) (fun a oe cls d pn hz hv => (pss_one (ps_set (i := 1) sc.nd rfl (.inl rfl) (pv 3)))))
      (pss_cons (ps_if (pt_cmpR op_isN1 (pv 1) pe_non (nomark _)) (pss_one (ps_ret (pe_ix ix_list (pe_lst (pa_cons (pv 2) (pa_cons (pe_lst (pa_cons (pv 2) pa_nil)) pa_nil))) (pe_callTy cr_intB (by rfl) T.b_int (by decide +kernel) (pa_cons (pe_callB call_isi (by rfl) T.b_isinstance (by decide +kernel) (pa_cons (pv 2) (pa_cons (pe_bltn (v := .ty "str") (u := .type "str") (by rfl) T.b_str (by decide +kernel) rfl) pa_nil))) pa_nil)) (fun _ _ => rfl)))) pss_nil)
      (pss_one (ps_ret (pe_h h_lword (hr.mono (by decide)) (by rfl) (pa_cons (pv 1) pa_nil))))))))
abbrev s_ltold_b : Stmt := topS 35
abbrev N_ltold_b : List Str := ["_law_asked", "_law_caught", "_law_found", "e"]
theorem sc_ltold_b : FnScope N_ltold_b ["_law_asked"] (defScope s_ltold_b) := ⟨rfl, rfl, rfl, by decide +kernel, rfl, by decide +kernel, by decide +kernel⟩
theorem gv_ltold_b {f0 : Addr} {fd : FuncData} (F : Fun K "_law_told" "_law_told" s_ltold_b f0 fd) (T : Tx mg) {cx : Str → Addr} (Y : Tc K cx mg) (h_lword : Has P w K mg base "_law_word" ["_law_caught"] 1 (sp_lword K cx)) (hm : mg "_law_told" = some (.ref f0)) (hb : L2.Binds K fd ["_law_asked"] []) : GivT P w K mg base 4 "_law_told" "_law_asked" (tt_ltold_b K cx) := by
  have sc := sc_ltold_b
  obtain ⟨oc, od, kV, doc, pm, an, cdv, ct, osl, rfl, lk, hcd⟩ := F.ex
  refine ⟨f0, _, _, _, _, kV, doc, pm, cdv, ct, oc, an, od, osl, N_ltold_b, hm, F.kp, lk, hcd, hb, sc, rfl, .inl rfl, fun q A outer f c' s H Q tl hr act h => ⟨t_ltold_b K cx q f c' tl, ?_, rd_ltold_b Y.xk h⟩⟩
  exact (pss_cons (ps_set (i := 1) sc.nd rfl (.inl rfl) pe_non)
      (pss_cons (ps_set (i := 2) sc.nd rfl (.inl rfl) pe_non)
      (pss_cons (ps_try_keep (X := (cxOf CX0 P w K mg base N_ltold_b "_law_told" (defScope s_ltold_b) f0 cdv A outer s H E0).nox) rfl rfl rfl sc.nd (i := 3) rfl rfl ⟨by rfl, by decide, .inl Y.x_SideError⟩ (fun W pn xe tk po => (pss_one (ps_set (i := 2) sc.nd rfl (.inl rfl) (act W pn xe _ _ tk)))) (fun a oe cls d pn hz hv => (pss_one (ps_set (i := 1) sc.nd rfl (.inl rfl) (pv 3)))))
      (pss_cons (ps_if (pt_cmpR op_isN1 (pv 1) pe_non (nomark _)) (pss_one (ps_ret (pe_ix ix_list (pe_lst (pa_cons (pv 2) (pa_cons (pe_lst (pa_cons (pv 2) pa_nil)) pa_nil))) (pe_callTy cr_intB (by rfl) T.b_int (by decide +kernel) (pa_cons (pe_callB call_isi (by rfl) T.b_isinstance (by decide +kernel) (pa_cons (pv 2) (pa_cons (pe_bltn (v := .ty "str") (u := .type "str") (by rfl) T.b_str (by decide +kernel) rfl) pa_nil))) pa_nil)) (fun _ _ => rfl)))) pss_nil)
      (pss_one (ps_ret (pe_h h_lword (hr.mono (by decide)) (by rfl) (pa_cons (pv 1) pa_nil))))))))
abbrev s_lnumbers : Stmt := topS 36
abbrev N_lnumbers : List Str := ["_law_state", "_law_many", "_law_found", "_law_way", "_law_at", "_law_odds"]
theorem sc_lnumbers : FnScope N_lnumbers ["_law_state", "_law_many"] (defScope s_lnumbers) := ⟨rfl, rfl, rfl, by decide +kernel, rfl, by decide +kernel, by decide +kernel⟩
theorem ok_lnumbers {f : Addr} {fd : FuncData} (F : Fun K "_law_numbers" "_law_numbers" s_lnumbers f fd) (T : Tx mg) (h_lorder : Has P w K mg base "_law_order" ["_law_state", "_law_many"] 3 (sp_lorder K)) (h_ltake : Has P w K mg base "_law_take" ["_law_state", "_law_many"] 2 (sp_ltake K)) : FnOk P w K mg base CX0 4 f fd ["_law_state", "_law_many"] (sp_lnumbers K) := by
  have sc := sc_lnumbers
  refine F.ok sc (len_lnumbers K) (fun cdv A outer s H vs Q E hr h => ⟨t_lnumbers K, ?_, rd_lnumbers h⟩)
  exact (pss_cons (ps_set (i := 2) sc.nd rfl (.inl rfl) (pe_h h_lorder (hr.mono (by decide)) (by rfl) (pa_cons (pv 0) (pa_cons (pv 1) pa_nil))))
      (pss_cons (ps_set (i := 3) sc.nd rfl (.inl rfl) (pe_h h_ltake (hr.mono (by decide)) (by rfl) (pa_cons (pv 0) (pa_cons pe_int pa_nil))))
      (pss_cons (ps_set (i := 4) sc.nd rfl (.inl rfl) (pe_h h_ltake (hr.mono (by decide)) (by rfl) (pa_cons (pv 0) (pa_cons (pe_op o_add (pv 1) pe_int) pa_nil))))
      (pss_cut (ps_if (pt_cmpR op_eq (pv 3) pe_int (nomark _)) (pss_one (ps_set (i := 2) sc.nd rfl (.inl rfl) (pe_slice sl_list (pv 2) po_none (po_some (pv 4))))) pss_nil)
      (pss_cut (ps_if (pt_cmpR op_eq (pv 3) pe_int (nomark _)) (pss_one (ps_set (i := 2) sc.nd rfl (.inl rfl) (pe_op op_cat (pe_op op_cat (pe_slice sl_list (pv 2) po_none (po_some (pv 4))) (pe_slice sl_list (pe_slice sl_list (pv 2) (po_some (pe_h h_ltake (hr.mono (by decide)) (by rfl) (pa_cons (pv 0) (pa_cons (pv 1) pa_nil)))) po_none) po_none (po_some pe_int))) (pe_slice sl_list (pv 2) (po_some (pv 4)) po_none)))) pss_nil)
      (pss_cut (ps_if (pt_cmpR o_gt (pv 3) pe_int (nomark _)) (pss_cons (ps_set (i := 2) sc.nd rfl (.inl rfl) (pe_slice sl_list (pv 2) (po_some (pe_h h_ltake (hr.mono (by decide)) (by rfl) (pa_cons (pv 0) (pa_cons (pv 1) pa_nil)))) po_none))
      (pss_cons (ps_set (i := 5) sc.nd rfl (.inl rfl) (pe_lst (pa_cons (pe_un un_neg pe_int) (pa_cons (pv 1) (pa_cons (pe_op o_pow pe_int pe_int) (pa_cons pe_bl (pa_cons pe_bl (pa_cons pe_non (pa_cons pe_str (pa_cons (pe_tup (pa_cons pe_int pa_nil)) (pa_cons (pe_lst (pa_cons pe_int pa_nil)) (pa_cons pe_dnewT (pa_cons (pe_op o_sub pe_int (pv 1)) (pa_cons pe_str (pa_cons (pe_op o_sub pe_int (pe_op o_pow pe_int pe_int)) pa_nil)))))))))))))))
      (pss_cons (ps_set (i := 4) sc.nd rfl (.inl rfl) (pe_op o_mod (pv 4) (pe_op o_add (pe_callB cr_len (by rfl) T.b_len (by decide +kernel) (pa_cons (pv 2) pa_nil)) pe_int)))
      (pss_one (ps_set (i := 2) sc.nd rfl (.inl rfl) (pe_op op_cat (pe_op op_cat (pe_slice sl_list (pv 2) po_none (po_some (pv 4))) (pe_lst (pa_cons (pe_ix ix_list (pv 5) (pe_h h_ltake (hr.mono (by decide)) (by rfl) (pa_cons (pv 0) (pa_cons pe_int pa_nil))) (fun _ _ => rfl)) pa_nil))) (pe_slice sl_list (pv 2) (po_some (pv 4)) po_none))))))) pss_nil)
      (pss_one (ps_ret (pv 2)))))))))
abbrev s_lis_number : Stmt := topS 37
abbrev N_lis_number : List Str := ["_law_thing", "_law_least", "_law_most"]
theorem sc_lis_number : FnScope N_lis_number ["_law_thing", "_law_least", "_law_most"] (defScope s_lis_number) := ⟨rfl, rfl, rfl, by decide +kernel, rfl, by decide +kernel, by decide +kernel⟩
theorem ok_lis_number {f : Addr} {fd : FuncData} (F : Fun K "_law_is_number" "_law_is_number" s_lis_number f fd) (T : Tx mg) : FnOk P w K mg base CX0 1 f fd ["_law_thing", "_law_least", "_law_most"] (sp_lis_number K) := by
  have sc := sc_lis_number
  refine F.ok sc (len_lis_number K) (fun cdv A outer s H vs Q E hr h => ⟨t_lis_number K, ?_, rd_lis_number h⟩)
  exact (pss_one (ps_ret (pe_and (pe_callB call_isi (by rfl) T.b_isinstance (by decide +kernel) (pa_cons (pv 0) (pa_cons (pe_bltn (v := .ty "int") (u := .type "int") (by rfl) T.b_int (by decide +kernel) rfl) pa_nil))) (pe_and (pe_not (pe_callB call_isi (by rfl) T.b_isinstance (by decide +kernel) (pa_cons (pv 0) (pa_cons (pe_bltn (v := .ty "bool") (u := .type "bool") (by rfl) T.b_bool (by decide +kernel) rfl) pa_nil)))) (pe_one (pe_chain o_le o_le (pv 1) (pv 0) (pv 2)))))))
abbrev s_lpart_due : Stmt := topS 38
abbrev N_lpart_due : List Str := ["_law_shape_here", "_law_numbers_here", "_law_at", "_law_number", "_law_other"]
theorem sc_lpart_due : FnScope N_lpart_due ["_law_shape_here", "_law_numbers_here"] (defScope s_lpart_due) := ⟨rfl, rfl, rfl, by decide +kernel, rfl, by decide +kernel, by decide +kernel⟩
theorem ok_lpart_due {f : Addr} {fd : FuncData} (F : Fun K "_law_part_due" "_law_part_due" s_lpart_due f fd) (T : Tx mg) (h_lis_number : Has P w K mg base "_law_is_number" ["_law_thing", "_law_least", "_law_most"] 1 (sp_lis_number K)) : FnOk P w K mg base CX0 2 f fd ["_law_shape_here", "_law_numbers_here"] (sp_lpart_due K) := by
  have sc := sc_lpart_due
  refine F.ok sc (len_lpart_due K) (fun cdv A outer s H vs Q E hr h => ⟨t_lpart_due K, ?_, rd_lpart_due h⟩)
  exact (pss_cons (ps_for PassesOwn.never rfl (pi_enum (by rfl) T.b_enumerate (pa_cons (pv 1) pa_nil)) (pg_tup rfl (pgs_cons (pg_name (i := 2) sc.nd rfl (.inl rfl)) (pgs_cons (pg_name (i := 3) sc.nd rfl (.inr rfl)) pgs_nil)))
      (pss_cons (ps_if (pt_not (pt_val (pe_h h_lis_number (hr.mono (by decide)) (by rfl) (pa_cons (pv 3) (pa_cons pe_int (pa_cons (pe_op o_sub (pe_callB cr_len (by rfl) T.b_len (by decide +kernel) (pa_cons (pv 0) pa_nil)) pe_int) pa_nil)))))) (pss_one (ps_ret pe_str)) pss_nil)
      (pss_one (ps_if (pt_cmpR (op_neD hr.units) (pe_lc (own := [("_law_other", 4)]) (by rfl) sc.nd (pi_list (pe_slice sl_list (pv 1) po_none (po_some (pv 2)))) (blkOk_by (own := [("_law_other", 4)]) (N := N_lpart_due) (sc := defScope s_lpart_due) (by decide +kernel)) (fun _ _ _ _ _ => (pg_name (i := 4) sc.nd rfl (by first | exact .inl rfl | exact .inr rfl))) (fun _ _ _ _ _ => (pts_one (pt_cmpR op_eq (pv 4) (pv 3) (nomark _)))) (fun _ _ _ _ _ => (pv 4))) (pe_lst pa_nil) (nomark _)) (pss_one (ps_ret pe_str)) pss_nil))))
      (pss_one (ps_ret (pe_ix ix_list (pe_lst (pa_cons (pe_callTy cr_tuple (by rfl) T.b_tuple (by decide +kernel) (pa_cons (pe_lc (own := [("_law_number", 3)]) (by rfl) sc.nd (pi_list (pv 1)) (blkOk_by (own := [("_law_number", 3)]) (N := N_lpart_due) (sc := defScope s_lpart_due) (by decide +kernel)) (fun _ _ _ _ _ => (pg_name (i := 3) sc.nd rfl (by first | exact .inl rfl | exact .inr rfl))) (fun _ _ _ _ _ => pts_nil) (fun _ _ _ _ _ => (pe_ix ix_tup (pv 0) (pv 3) (fun _ _ => rfl)))) pa_nil)) (pa_cons pe_str pa_nil))) (pe_callTy cr_intB (by rfl) T.b_int (by decide +kernel) (pa_cons (pe_cmpR (op_eqN hr.units) (pv 1) (pe_lst pa_nil) (nomark _)) pa_nil)) (fun _ _ => rfl)))))
abbrev s_lbegun_due : Stmt := topS 39
abbrev N_lbegun_due : List Str := ["_law_shape_here", "_law_rows_here", "_law_many", "_law_row", "_law_at"]
theorem sc_lbegun_due : FnScope N_lbegun_due ["_law_shape_here", "_law_rows_here", "_law_many"] (defScope s_lbegun_due) := ⟨rfl, rfl, rfl, by decide +kernel, rfl, by decide +kernel, by decide +kernel⟩
theorem ok_lbegun_due {f : Addr} {fd : FuncData} (F : Fun K "_law_begun_due" "_law_begun_due" s_lbegun_due f fd) (T : Tx mg) (h_lis_number : Has P w K mg base "_law_is_number" ["_law_thing", "_law_least", "_law_most"] 1 (sp_lis_number K)) : FnOk P w K mg base CX0 2 f fd ["_law_shape_here", "_law_rows_here", "_law_many"] (sp_lbegun_due K) := by
  have sc := sc_lbegun_due
  refine F.ok sc (len_lbegun_due K) (fun cdv A outer s H vs Q E hr h => ⟨t_lbegun_due K, ?_, rd_lbegun_due h⟩)
  exact (pss_cons (ps_if (pt_not (pt_val (pe_h h_lis_number (hr.mono (by decide)) (by rfl) (pa_cons (pv 2) (pa_cons pe_int (pa_cons (pe_callB cr_len (by rfl) T.b_len (by decide +kernel) (pa_cons (pv 0) pa_nil)) pa_nil)))))) (pss_one (ps_ret pe_str)) pss_nil)
      (pss_one (ps_ret (pe_tup (pa_cons (pe_callTy cr_tuple (by rfl) T.b_tuple (by decide +kernel) (pa_cons (pe_lc (own := [("_law_row", 3)]) (by rfl) sc.nd (pi_list (pe_slice sl_list (pv 1) po_none (po_some (pv 2)))) (blkOk_by (own := [("_law_row", 3)]) (N := N_lbegun_due) (sc := defScope s_lbegun_due) (by decide +kernel)) (fun _ _ _ _ _ => (pg_name (i := 3) sc.nd rfl (by first | exact .inl rfl | exact .inr rfl))) (fun _ _ _ _ _ => pts_nil) (fun _ _ _ _ _ => (pe_ix ix_tup (pv 0) (pe_ix ix_tup (pv 3) pe_int (fun _ _ => rfl)) (fun _ _ => rfl)))) pa_nil)) (pa_cons (pe_lc (own := [("_law_at", 4)]) (by rfl) sc.nd (pi_range1 (by rfl) T.b_range (pa_cons (pv 2) pa_nil)) (blkOk_by (own := [("_law_at", 4)]) (N := N_lbegun_due) (sc := defScope s_lbegun_due) (by decide +kernel)) (fun _ _ _ _ _ => (pg_name (i := 4) sc.nd rfl (by first | exact .inl rfl | exact .inr rfl))) (fun _ _ _ _ _ => pts_nil) (fun _ _ _ _ _ => (pe_tup (pa_cons (pv 4) (pa_cons (pe_ix ix_tup (pe_ix ix_list (pv 1) (pv 4) (fun _ _ => rfl)) pe_int (fun _ _ => rfl)) pa_nil))))) pa_nil))))))
abbrev s_lbegun_right : Stmt := topS 40
abbrev N_lbegun_right : List Str := ["_law_state", "_law_shape_here", "_law_rows_here", "_law_names", "_law_all_there", "_law_some", "_law_many", "_law_due", "_law_again", "_law_handed", "_law_found"]
theorem sc_lbegun_right : FnScope N_lbegun_right ["_law_state"] (defScope s_lbegun_right) := ⟨rfl, rfl, rfl, by decide +kernel, rfl, by decide +kernel, by decide +kernel⟩
theorem ok_lbegun_right {f : Addr} {fd : FuncData} (F : Fun K "_law_begun_right" "_law_begun_right" s_lbegun_right f fd) (T : Tx mg) {c Pt : Addr} (TB : LamX.TabB base mg c Pt) (hcode : fd.code = .ref c) {cx : Str → Addr} (Y : Tc K cx mg) (h_ltake : Has P w K mg base "_law_take" ["_law_state", "_law_many"] 2 (sp_ltake K)) (h_llaid : Has P w K mg base "_law_laid" ["_law_state", "_law_size", "_law_most"] 5 (sp_llaid K)) (h_lbegun_due : Has P w K mg base "_law_begun_due" ["_law_shape_here", "_law_rows_here", "_law_many"] 2 (sp_lbegun_due K)) (h_ltold_b : GivT P w K mg base 4 "_law_told" "_law_asked" (tt_ltold_b K cx)) (h_begun : HasX P w K mg base "begun" ["shape", "paper", "many"] 3 (sp_begun K cx)) : FnG P w K mg base 6 f fd ["_law_state"] (sp_lbegun_right K Pt (qLam "_law_begun_right" (defScope s_lbegun_right))) := by
  have sc := sc_lbegun_right
  refine okGT F hcode sc (len_lbegun_right K Pt (qLam "_law_begun_right" (defScope s_lbegun_right))) (fun A outer s H vs Q E hg hr h => ⟨t_lbegun_right K cx Pt (qLam "_law_begun_right" (defScope s_lbegun_right)), ?_, rd_lbegun_right h⟩)
  exact (pss_cons (ps_asg (pe_h h_llaid (hr.mono (by decide)) (by rfl) (pa_cons (pv 0) (pa_cons (pe_op o_add pe_int (pe_h h_ltake (hr.mono (by decide)) (by rfl) (pa_cons (pv 0) (pa_cons pe_int pa_nil)))) (pa_cons (pe_ix ix_list (pe_lst (pa_cons pe_int (pa_cons pe_int (pa_cons pe_int pa_nil)))) (pe_h h_ltake (hr.mono (by decide)) (by rfl) (pa_cons (pv 0) (pa_cons pe_int pa_nil))) (fun _ _ => rfl)) pa_nil)))) (pg_tup rfl (pgs_cons (pg_name (i := 1) sc.nd rfl (.inr rfl)) (pgs_cons (pg_name (i := 2) sc.nd rfl (.inl rfl)) (pgs_cons (pg_name (i := 3) sc.nd rfl (.inl rfl)) pgs_nil)))))
      (pss_cons (ps_set (i := 4) sc.nd rfl (.inl rfl) (pe_callB cr_len (by rfl) T.b_len (by decide +kernel) (pa_cons (pv 1) pa_nil)))
      (pss_cons (ps_set (i := 5) sc.nd rfl (.inl rfl) (pe_lst (pa_cons (pv 4) (pa_cons pe_int (pa_cons (pe_op o_add pe_int (pe_h h_ltake (hr.mono (by decide)) (by rfl) (pa_cons (pv 0) (pa_cons (pv 4) pa_nil)))) (pa_cons pe_int (pa_cons (pe_un un_neg pe_int) (pa_cons (pe_op o_add (pv 4) pe_int) (pa_cons (pe_op o_pow pe_int pe_int) (pa_cons pe_bl (pa_cons pe_bl (pa_cons pe_non (pa_cons pe_str (pa_cons (pe_tup (pa_cons pe_int pa_nil)) pa_nil))))))))))))))
      (pss_cons (ps_for PassesOwn.never rfl (pi_list (pv 5)) (pg_name (i := 6) sc.nd rfl (.inr rfl))
      (pss_cons (ps_set (i := 7) sc.nd rfl (.inl rfl) (pe_h h_lbegun_due (hr.mono (by decide)) (by rfl) (pa_cons (pv 1) (pa_cons (pv 2) (pa_cons (pv 6) pa_nil)))))
      (pss_one (ps_for PassesOwn.never rfl (pi_range1 (by rfl) T.b_range (pa_cons pe_int pa_nil)) (pg_name (i := 8) sc.nd rfl (.inl rfl))
      (pss_cons (ps_set (i := 9) sc.nd rfl (.inr rfl) (pe_callTy cr_list (by rfl) T.b_list (by decide +kernel) (pa_cons (pv 2) pa_nil)))
      (pss_cons (ps_set (i := 10) sc.nd rfl (.inl rfl) (pe_lam (k := 3) h_ltold_b (by rfl) TB rfl (hr.mono (by decide)) (LamX.lamS_by (by kernel_rfl)) rfl (fun _ _ _ _ _ => rfl) (fun A outer s H E f c' hr => (pe_hX h_begun (takes_of rfl rfl rfl rfl) (hr.mono (by decide)) (by rfl) (pa_cons (pv 1) (pa_cons (pv 9) (pa_cons (pv 6) pa_nil)))))))
      (pss_cons (ps_if (PW.pt (pw_or (pt_cmpR op_ne (pe_callB (call_reprA hg hr.units) (by rfl) T.b_repr (by decide +kernel) (pa_cons (pv 10) pa_nil)) (pe_callB (call_reprA hg hr.units) (by rfl) T.b_repr (by decide +kernel) (pa_cons (pv 7) pa_nil)) (nomark _)) (pw_or1 (pt_cmpR (op_neD hr.units) (pv 9) (pv 2) (nomark _))))) (pss_one (ps_ret pe_bl)) pss_nil)
      (pss_one (ps_if (pt_val (pe_callB call_isi (by rfl) T.b_isinstance (by decide +kernel) (pa_cons (pv 10) (pa_cons (pe_bltn (v := .ty "tuple") (u := .type "tuple") (by rfl) T.b_tuple (by decide +kernel) rfl) pa_nil)))) (pss_one (ps_expr (pe_bm PySem.F.plainAttrs_list PySem.F.slot_list_append PySem.F.type_list_append mt_append (pe_ix ix_tup (pv 10) pe_int (fun _ _ => rfl)) (pa_cons pe_non pa_nil)))) pss_nil)))))))))
      (pss_one (ps_ret pe_bl))))))
abbrev s_law : Stmt := topS 41
abbrev N_law : List Str := ["_law_script", "_law_state", "_law_turn", "_law_shape_here", "_law_names", "_law_k", "_law_numbers_here", "_law_handed", "_law_due"]
theorem sc_law : FnScope N_law ["_law_script"] (defScope s_law) := ⟨rfl, rfl, rfl, by decide +kernel, rfl, by decide +kernel, by decide +kernel⟩
theorem ok_law {f : Addr} {fd : FuncData} (F : Fun K "law" "law" s_law f fd) (T : Tx mg) {c Pt : Addr} (TB : LamX.TabB base mg c Pt) (hcode : fd.code = .ref c) {Pt2 : Addr} (SM : SMod base) {cx : Str → Addr} (Y : Tc K cx mg) (h_lshape : Has P w K mg base "_law_shape" ["_law_state"] 4 (sp_lshape K)) (h_lnumbers : Has P w K mg base "_law_numbers" ["_law_state", "_law_many"] 4 (sp_lnumbers K)) (h_lpart_due : Has P w K mg base "_law_part_due" ["_law_shape_here", "_law_numbers_here"] 2 (sp_lpart_due K)) (h_ltold : GivT P w K mg base 4 "_law_told" "_law_asked" (tt_ltold K cx)) (h_part : HasX P w K mg base "part" ["shape", "numbers"] 2 (sp_part K cx)) (h_lbegun_right : HasG P w K mg base "_law_begun_right" ["_law_state"] 6 (sp_lbegun_right K Pt2 (qLam "_law_begun_right" (defScope s_lbegun_right)))) : FnG P w K mg base 7 f fd ["_law_script"] (sp_law K Pt (qLam "law" (defScope s_law)) Pt2 (qLam "_law_begun_right" (defScope s_lbegun_right))) := by
  have sc := sc_law
  refine okGT F hcode sc (len_law K Pt (qLam "law" (defScope s_law)) Pt2 (qLam "_law_begun_right" (defScope s_lbegun_right))) (fun A outer s H vs Q E hg hr h => ⟨t_law K cx Pt (qLam "law" (defScope s_law)) Pt2 (qLam "_law_begun_right" (defScope s_lbegun_right)), ?_, rd_law h⟩)
  exact (pss_cons (ps_set (i := 1) sc.nd rfl (.inl rfl) (pe_lst (pa_cons (pv 0) (pa_cons pe_int (pa_cons pe_int pa_nil)))))
      (pss_cons (ps_for PassesOwn.never rfl (pi_range1 (by rfl) T.b_range (pa_cons pe_int pa_nil)) (pg_name (i := 2) sc.nd rfl (.inl rfl))
      (pss_cons (ps_asg (pe_h h_lshape (hr.mono (by decide)) (by rfl) (pa_cons (pv 1) pa_nil)) (pg_tup rfl (pgs_cons (pg_name (i := 3) sc.nd rfl (.inr rfl)) (pgs_cons (pg_name (i := 4) sc.nd rfl (.inl rfl)) pgs_nil))))
      (pss_cons (ps_for PassesOwn.never rfl (pi_range1 (by rfl) T.b_range (pa_cons pe_int pa_nil)) (pg_name (i := 5) sc.nd rfl (.inl rfl))
      (pss_cons (ps_set (i := 6) sc.nd rfl (.inl rfl) (pe_h h_lnumbers (hr.mono (by decide)) (by rfl) (pa_cons (pv 1) (pa_cons (pe_callB cr_len (by rfl) T.b_len (by decide +kernel) (pa_cons (pv 3) pa_nil)) pa_nil))))
      (pss_cut (ps_if (pt_cmpR op_eq (pv 5) pe_int (nomark _)) (pss_one (ps_set (i := 6) sc.nd rfl (.inl rfl) (pe_lst pa_nil))) pss_nil)
      (pss_cons (ps_set (i := 7) sc.nd rfl (.inr rfl) (pe_callTy cr_list (by rfl) T.b_list (by decide +kernel) (pa_cons (pv 6) pa_nil)))
      (pss_cons (ps_set (i := 8) sc.nd rfl (.inl rfl) (pe_h h_lpart_due (hr.mono (by decide)) (by rfl) (pa_cons (pv 3) (pa_cons (pv 6) pa_nil))))
      (pss_one (ps_if (PW.pt (pw_or (pt_cmpR op_ne (pe_callB (call_reprA hg hr.units) (by rfl) T.b_repr (by decide +kernel) (pa_cons (pe_lam (k := 3) h_ltold (by rfl) TB rfl (hr.mono (by decide)) (LamX.lamS_by (by kernel_rfl)) rfl (fun _ _ _ _ _ => rfl) (fun A outer s H E f c' hr => (pe_hX h_part (takes_of rfl rfl rfl rfl) (hr.mono (by decide)) (by rfl) (pa_cons (pv 3) (pa_cons (pv 7) pa_nil))))) pa_nil)) (pe_callB (call_reprA hg hr.units) (by rfl) T.b_repr (by decide +kernel) (pa_cons (pv 8) pa_nil)) (nomark _)) (pw_or1 (pt_cmpR op_ne (pe_callB (call_reprT hg hr.units SM) (by rfl) T.b_repr (by decide +kernel) (pa_cons (pv 7) pa_nil)) (pe_callB (call_reprT hg hr.units SM) (by rfl) T.b_repr (by decide +kernel) (pa_cons (pv 6) pa_nil)) (nomark _))))) (pss_one (ps_ret pe_bl)) pss_nil)))))))
      (pss_one (ps_if (pt_not (pt_val (pe_g h_lbegun_right hg (hr.mono (by decide)) (by rfl) (pa_cons (pv 1) pa_nil)))) (pss_one (ps_ret pe_bl)) pss_nil)))))
      (pss_one (ps_ret pe_bl))))
end
theorem all_mk {l : PySem.W.OpenLaw} {w : World} {K : PySem.W.Frag} {h : Heap} {mg : Str → Option Value} {fa f0 f1 f2 f3 f4 f5 f6 f7 f8 f9 f10 f11 f12 f13 f14 f15 f16 f17 f18 f19 f20 f21 f22 f23 f24 f25 f26 : Addr} (X : K.In h) (G : h.Ns mainGlobals mg) (hfa : mg "law" = some (.ref fa))
    {od0 an0 od1 an1 od2 an2 od3 an3 od4 an4 od5 an5 od6 an6 od7 an7 od8 an8 od9 an9 od10 an10 od11 an11 od12 an12 od13 an13 od14 an14 od15 an15 od16 an16 od17 an17 od18 an18 od19 an19 od20 an20 od21 an21 od22 an22 od23 an23 od24 an24 od25 an25 od26 an26 : Option Addr} {sl0 sl1 sl2 sl3 sl4 sl5 sl6 sl7 sl8 sl9 sl10 sl11 sl12 sl13 sl14 sl15 sl16 sl17 sl18 sl19 sl20 sl21 sl22 sl23 sl24 sl25 sl26 : Array (Option Value)} {oc0 kV0 dc0 pm0 cd0 ct0 oc1 kV1 dc1 pm1 cd1 ct1 oc2 kV2 dc2 pm2 cd2 ct2 oc3 kV3 dc3 pm3 cd3 ct3 oc4 kV4 dc4 pm4 cd4 ct4 oc5 kV5 dc5 pm5 cd5 ct5 oc6 kV6 dc6 pm6 cd6 ct6 oc7 kV7 dc7 pm7 cd7 ct7 oc8 kV8 dc8 pm8 cd8 ct8 oc9 kV9 dc9 pm9 cd9 ct9 oc10 kV10 dc10 pm10 cd10 ct10 oc11 kV11 dc11 pm11 cd11 ct11 oc12 kV12 dc12 pm12 cd12 ct12 oc13 kV13 dc13 pm13 cd13 ct13 oc14 kV14 dc14 pm14 cd14 ct14 oc15 kV15 dc15 pm15 cd15 ct15 oc16 kV16 dc16 pm16 cd16 ct16 oc17 kV17 dc17 pm17 cd17 ct17 oc18 kV18 dc18 pm18 cd18 ct18 oc19 kV19 dc19 pm19 cd19 ct19 oc20 kV20 dc20 pm20 cd20 ct20 oc21 kV21 dc21 pm21 cd21 ct21 oc22 kV22 dc22 pm22 cd22 ct22 oc23 kV23 dc23 pm23 cd23 ct23 oc24 kV24 dc24 pm24 cd24 ct24 oc25 kV25 dc25 pm25 cd25 ct25 oc26 kV26 dc26 pm26 cd26 ct26 : Value}
    {C0 C1 C2 C3 C4 C5 C6 C7 C8 C9 C10 C11 C12 C13 : Addr}
    (a0 : PySem.W.nsIn K mainGlobals "is_from" = some (some (.ref f0))) (l0 : K.lookup f0 = some ⟨oc0, od0, .func (PySem.W.fnOf "is_from" "is_from" (defArgs s_is_from) (defBody s_is_from) (defScope s_is_from) .none kV0 dc0 pm0 an0 cd0 ct0), sl0⟩) (c0 : PySem.W.codeIn K cd0 "is_from" = true) (k0 : PySem.W.keepIn K (.ref f0) = true)
    (a1 : PySem.W.nsIn K mainGlobals "is_from" = some (some (.ref f1))) (l1 : K.lookup f1 = some ⟨oc1, od1, .func (PySem.W.fnOf "is_from" "is_from" (defArgs s_is_from_i) (defBody s_is_from_i) (defScope s_is_from_i) .none kV1 dc1 pm1 an1 cd1 ct1), sl1⟩) (c1 : PySem.W.codeIn K cd1 "is_from" = true) (k1 : PySem.W.keepIn K (.ref f1) = true)
    (a2 : PySem.W.nsIn K mainGlobals "part" = some (some (.ref f2))) (l2 : K.lookup f2 = some ⟨oc2, od2, .func (PySem.W.fnOf "part" "part" (defArgs s_part) (defBody s_part) (defScope s_part) .none kV2 dc2 pm2 an2 cd2 ct2), sl2⟩) (c2 : PySem.W.codeIn K cd2 "part" = true) (k2 : PySem.W.keepIn K (.ref f2) = true)
    (a3 : PySem.W.nsIn K mainGlobals "part" = some (some (.ref f3))) (l3 : K.lookup f3 = some ⟨oc3, od3, .func (PySem.W.fnOf "part" "part" (defArgs s_part_i) (defBody s_part_i) (defScope s_part_i) .none kV3 dc3 pm3 an3 cd3 ct3), sl3⟩) (c3 : PySem.W.codeIn K cd3 "part" = true) (k3 : PySem.W.keepIn K (.ref f3) = true)
    (a4 : PySem.W.nsIn K mainGlobals "begun" = some (some (.ref f4))) (l4 : K.lookup f4 = some ⟨oc4, od4, .func (PySem.W.fnOf "begun" "begun" (defArgs s_begun) (defBody s_begun) (defScope s_begun) .none kV4 dc4 pm4 an4 cd4 ct4), sl4⟩) (c4 : PySem.W.codeIn K cd4 "begun" = true) (k4 : PySem.W.keepIn K (.ref f4) = true)
    (a5 : PySem.W.nsIn K mainGlobals "_law_mixed" = some (some (.ref f5))) (l5 : K.lookup f5 = some ⟨oc5, od5, .func (PySem.W.fnOf "_law_mixed" "_law_mixed" (defArgs s_lmixed) (defBody s_lmixed) (defScope s_lmixed) .none kV5 dc5 pm5 an5 cd5 ct5), sl5⟩) (c5 : PySem.W.codeIn K cd5 "_law_mixed" = true) (k5 : PySem.W.keepIn K (.ref f5) = true)
    (a6 : PySem.W.nsIn K mainGlobals "_law_take" = some (some (.ref f6))) (l6 : K.lookup f6 = some ⟨oc6, od6, .func (PySem.W.fnOf "_law_take" "_law_take" (defArgs s_ltake) (defBody s_ltake) (defScope s_ltake) .none kV6 dc6 pm6 an6 cd6 ct6), sl6⟩) (c6 : PySem.W.codeIn K cd6 "_law_take" = true) (k6 : PySem.W.keepIn K (.ref f6) = true)
    (a7 : PySem.W.nsIn K mainGlobals "_law_corners" = some (some (.ref f7))) (l7 : K.lookup f7 = some ⟨oc7, od7, .func (PySem.W.fnOf "_law_corners" "_law_corners" (defArgs s_lcorners) (defBody s_lcorners) (defScope s_lcorners) .none kV7 dc7 pm7 an7 cd7 ct7), sl7⟩) (c7 : PySem.W.codeIn K cd7 "_law_corners" = true) (k7 : PySem.W.keepIn K (.ref f7) = true)
    (a8 : PySem.W.nsIn K mainGlobals "_law_order" = some (some (.ref f8))) (l8 : K.lookup f8 = some ⟨oc8, od8, .func (PySem.W.fnOf "_law_order" "_law_order" (defArgs s_lorder) (defBody s_lorder) (defScope s_lorder) .none kV8 dc8 pm8 an8 cd8 ct8), sl8⟩) (c8 : PySem.W.codeIn K cd8 "_law_order" = true) (k8 : PySem.W.keepIn K (.ref f8) = true)
    (a9 : PySem.W.nsIn K mainGlobals "_law_less" = some (some (.ref f9))) (l9 : K.lookup f9 = some ⟨oc9, od9, .func (PySem.W.fnOf "_law_less" "_law_less" (defArgs s_lless) (defBody s_lless) (defScope s_lless) .none kV9 dc9 pm9 an9 cd9 ct9), sl9⟩) (c9 : PySem.W.codeIn K cd9 "_law_less" = true) (k9 : PySem.W.keepIn K (.ref f9) = true)
    (a10 : PySem.W.nsIn K mainGlobals "_law_put" = some (some (.ref f10))) (l10 : K.lookup f10 = some ⟨oc10, od10, .func (PySem.W.fnOf "_law_put" "_law_put" (defArgs s_lput) (defBody s_lput) (defScope s_lput) .none kV10 dc10 pm10 an10 cd10 ct10), sl10⟩) (c10 : PySem.W.codeIn K cd10 "_law_put" = true) (k10 : PySem.W.keepIn K (.ref f10) = true)
    (a11 : PySem.W.nsIn K mainGlobals "_law_brings" = some (some (.ref f11))) (l11 : K.lookup f11 = some ⟨oc11, od11, .func (PySem.W.fnOf "_law_brings" "_law_brings" (defArgs s_lbrings) (defBody s_lbrings) (defScope s_lbrings) .none kV11 dc11 pm11 an11 cd11 ct11), sl11⟩) (c11 : PySem.W.codeIn K cd11 "_law_brings" = true) (k11 : PySem.W.keepIn K (.ref f11) = true)
    (a12 : PySem.W.nsIn K mainGlobals "_law_grown" = some (some (.ref f12))) (l12 : K.lookup f12 = some ⟨oc12, od12, .func (PySem.W.fnOf "_law_grown" "_law_grown" (defArgs s_lgrown) (defBody s_lgrown) (defScope s_lgrown) .none kV12 dc12 pm12 an12 cd12 ct12), sl12⟩) (c12 : PySem.W.codeIn K cd12 "_law_grown" = true) (k12 : PySem.W.keepIn K (.ref f12) = true)
    (a13 : PySem.W.nsIn K mainGlobals "_law_any" = some (some (.ref f13))) (l13 : K.lookup f13 = some ⟨oc13, od13, .func (PySem.W.fnOf "_law_any" "_law_any" (defArgs s_lany) (defBody s_lany) (defScope s_lany) .none kV13 dc13 pm13 an13 cd13 ct13), sl13⟩) (c13 : PySem.W.codeIn K cd13 "_law_any" = true) (k13 : PySem.W.keepIn K (.ref f13) = true)
    (a14 : PySem.W.nsIn K mainGlobals "_law_shape" = some (some (.ref f14))) (l14 : K.lookup f14 = some ⟨oc14, od14, .func (PySem.W.fnOf "_law_shape" "_law_shape" (defArgs s_lshape) (defBody s_lshape) (defScope s_lshape) .none kV14 dc14 pm14 an14 cd14 ct14), sl14⟩) (c14 : PySem.W.codeIn K cd14 "_law_shape" = true) (k14 : PySem.W.keepIn K (.ref f14) = true)
    (a15 : PySem.W.nsIn K mainGlobals "_law_rows" = some (some (.ref f15))) (l15 : K.lookup f15 = some ⟨oc15, od15, .func (PySem.W.fnOf "_law_rows" "_law_rows" (defArgs s_lrows) (defBody s_lrows) (defScope s_lrows) .none kV15 dc15 pm15 an15 cd15 ct15), sl15⟩) (c15 : PySem.W.codeIn K cd15 "_law_rows" = true) (k15 : PySem.W.keepIn K (.ref f15) = true)
    (a16 : PySem.W.nsIn K mainGlobals "_law_numbered" = some (some (.ref f16))) (l16 : K.lookup f16 = some ⟨oc16, od16, .func (PySem.W.fnOf "_law_numbered" "_law_numbered" (defArgs s_lnumbered) (defBody s_lnumbered) (defScope s_lnumbered) .none kV16 dc16 pm16 an16 cd16 ct16), sl16⟩) (c16 : PySem.W.codeIn K cd16 "_law_numbered" = true) (k16 : PySem.W.keepIn K (.ref f16) = true)
    (a17 : PySem.W.nsIn K mainGlobals "_law_laid" = some (some (.ref f17))) (l17 : K.lookup f17 = some ⟨oc17, od17, .func (PySem.W.fnOf "_law_laid" "_law_laid" (defArgs s_llaid) (defBody s_llaid) (defScope s_llaid) .none kV17 dc17 pm17 an17 cd17 ct17), sl17⟩) (c17 : PySem.W.codeIn K cd17 "_law_laid" = true) (k17 : PySem.W.keepIn K (.ref f17) = true)
    (a18 : PySem.W.nsIn K mainGlobals "_law_word" = some (some (.ref f18))) (l18 : K.lookup f18 = some ⟨oc18, od18, .func (PySem.W.fnOf "_law_word" "_law_word" (defArgs s_lword) (defBody s_lword) (defScope s_lword) .none kV18 dc18 pm18 an18 cd18 ct18), sl18⟩) (c18 : PySem.W.codeIn K cd18 "_law_word" = true) (k18 : PySem.W.keepIn K (.ref f18) = true)
    (a19 : PySem.W.nsIn K mainGlobals "_law_told" = some (some (.ref f19))) (l19 : K.lookup f19 = some ⟨oc19, od19, .func (PySem.W.fnOf "_law_told" "_law_told" (defArgs s_ltold) (defBody s_ltold) (defScope s_ltold) .none kV19 dc19 pm19 an19 cd19 ct19), sl19⟩) (c19 : PySem.W.codeIn K cd19 "_law_told" = true) (k19 : PySem.W.keepIn K (.ref f19) = true)
    (a20 : PySem.W.nsIn K mainGlobals "_law_told" = some (some (.ref f20))) (l20 : K.lookup f20 = some ⟨oc20, od20, .func (PySem.W.fnOf "_law_told" "_law_told" (defArgs s_ltold_b) (defBody s_ltold_b) (defScope s_ltold_b) .none kV20 dc20 pm20 an20 cd20 ct20), sl20⟩) (c20 : PySem.W.codeIn K cd20 "_law_told" = true) (k20 : PySem.W.keepIn K (.ref f20) = true)
    (a21 : PySem.W.nsIn K mainGlobals "_law_numbers" = some (some (.ref f21))) (l21 : K.lookup f21 = some ⟨oc21, od21, .func (PySem.W.fnOf "_law_numbers" "_law_numbers" (defArgs s_lnumbers) (defBody s_lnumbers) (defScope s_lnumbers) .none kV21 dc21 pm21 an21 cd21 ct21), sl21⟩) (c21 : PySem.W.codeIn K cd21 "_law_numbers" = true) (k21 : PySem.W.keepIn K (.ref f21) = true)
    (a22 : PySem.W.nsIn K mainGlobals "_law_is_number" = some (some (.ref f22))) (l22 : K.lookup f22 = some ⟨oc22, od22, .func (PySem.W.fnOf "_law_is_number" "_law_is_number" (defArgs s_lis_number) (defBody s_lis_number) (defScope s_lis_number) .none kV22 dc22 pm22 an22 cd22 ct22), sl22⟩) (c22 : PySem.W.codeIn K cd22 "_law_is_number" = true) (k22 : PySem.W.keepIn K (.ref f22) = true)
    (a23 : PySem.W.nsIn K mainGlobals "_law_part_due" = some (some (.ref f23))) (l23 : K.lookup f23 = some ⟨oc23, od23, .func (PySem.W.fnOf "_law_part_due" "_law_part_due" (defArgs s_lpart_due) (defBody s_lpart_due) (defScope s_lpart_due) .none kV23 dc23 pm23 an23 cd23 ct23), sl23⟩) (c23 : PySem.W.codeIn K cd23 "_law_part_due" = true) (k23 : PySem.W.keepIn K (.ref f23) = true)
    (a24 : PySem.W.nsIn K mainGlobals "_law_begun_due" = some (some (.ref f24))) (l24 : K.lookup f24 = some ⟨oc24, od24, .func (PySem.W.fnOf "_law_begun_due" "_law_begun_due" (defArgs s_lbegun_due) (defBody s_lbegun_due) (defScope s_lbegun_due) .none kV24 dc24 pm24 an24 cd24 ct24), sl24⟩) (c24 : PySem.W.codeIn K cd24 "_law_begun_due" = true) (k24 : PySem.W.keepIn K (.ref f24) = true)
    (a25 : PySem.W.nsIn K mainGlobals "_law_begun_right" = some (some (.ref f25))) (l25 : K.lookup f25 = some ⟨oc25, od25, .func (PySem.W.fnOf "_law_begun_right" "_law_begun_right" (defArgs s_lbegun_right) (defBody s_lbegun_right) (defScope s_lbegun_right) .none kV25 dc25 pm25 an25 cd25 ct25), sl25⟩) (c25 : PySem.W.codeIn K cd25 "_law_begun_right" = true) (k25 : PySem.W.keepIn K (.ref f25) = true)
    (a26 : PySem.W.nsIn K mainGlobals "law" = some (some (.ref f26))) (l26 : K.lookup f26 = some ⟨oc26, od26, .func (PySem.W.fnOf "law" "law" (defArgs s_law) (defBody s_law) (defScope s_law) .none kV26 dc26 pm26 an26 cd26 ct26), sl26⟩) (c26 : PySem.W.codeIn K cd26 "law" = true) (k26 : PySem.W.keepIn K (.ref f26) = true)
    (z0 : PySem.W.nsIn K mainGlobals "int" = some none)
    (z1 : PySem.W.nsIn K mainGlobals "isinstance" = some none)
    (z2 : PySem.W.nsIn K mainGlobals "bool" = some none)
    (z3 : PySem.W.nsIn K mainGlobals "len" = some none)
    (z4 : PySem.W.nsIn K mainGlobals "tuple" = some none)
    (z5 : PySem.W.nsIn K mainGlobals "enumerate" = some none)
    (z6 : PySem.W.nsIn K mainGlobals "abs" = some none)
    (z7 : PySem.W.nsIn K mainGlobals "range" = some none)
    (z8 : PySem.W.nsIn K mainGlobals "sorted" = some none)
    (z9 : PySem.W.nsIn K mainGlobals "list" = some none)
    (z10 : PySem.W.nsIn K mainGlobals "ValueError" = some none)
    (z11 : PySem.W.nsIn K mainGlobals "str" = some none)
    (z12 : PySem.W.nsIn K mainGlobals "repr" = some none)
    (u0 : PySem.W.nsIn K mainGlobals "SideError" = some (some (.ref C0)))
    (u1 : PySem.W.nsIn K mainGlobals "NoShape" = some (some (.ref C1)))
    (u2 : PySem.W.nsIn K mainGlobals "NoFace" = some (some (.ref C2)))
    (u3 : PySem.W.nsIn K mainGlobals "NoPiece" = some (some (.ref C3)))
    (u4 : PySem.W.nsIn K mainGlobals "NoCorner" = some (some (.ref C4)))
    (u5 : PySem.W.nsIn K mainGlobals "NotClosed" = some (some (.ref C5)))
    (u6 : PySem.W.nsIn K mainGlobals "TooMany" = some (some (.ref C6)))
    (u7 : PySem.W.nsIn K mainGlobals "NoOrder" = some (some (.ref C7)))
    (u8 : PySem.W.nsIn K mainGlobals "NoWish" = some (some (.ref C8)))
    (u9 : PySem.W.nsIn K mainGlobals "NoFit" = some (some (.ref C9)))
    (u10 : PySem.W.nsIn K mainGlobals "NoShrink" = some (some (.ref C10)))
    (u11 : PySem.W.nsIn K mainGlobals "NoText" = some (some (.ref C11)))
    (u12 : PySem.W.nsIn K mainGlobals "NoRow" = some (some (.ref C12)))
    (u13 : PySem.W.nsIn K mainGlobals "NoName" = some (some (.ref C13)))
    (v0 : rzB K ((cxF C0 C1 C2 C3 C4 C5 C6 C7 C8 C9 C10 C11 C12 C13) "NoPiece") = true)
    (v1 : xkB K (cxF C0 C1 C2 C3 C4 C5 C6 C7 C8 C9 C10 C11 C12 C13) xNs xCs = true)
    {ct Pt : Addr} (tb : PySem.W.tabIn K "law" = some (ct, Pt)) {ct2 Pt2 : Addr} (tb2 : PySem.W.tabIn K "_law_begun_right" = some (ct2, Pt2)) :
    ∃ fd : FuncData, (∀ (s : Shared) (v : Value), BindsTo s fd ⟨[v], []⟩ [("_law_script", v)]) ∧ ∀ base : Heap, K.In base → base.Ns mainGlobals mg → SMod base → LamX.TabB base mg ct Pt → LamX.TabB base mg ct2 Pt2 → FnG l.prog w K mg base 7 fa fd ["_law_script"] (sp_law K Pt (qLam "law" (defScope s_law)) Pt2 (qLam "_law_begun_right" (defScope s_lbegun_right))) := by
  have e := hfa.symm.trans (PySem.W.mg_of X G a26)
  cases e
  have T : Tx mg := ⟨PySem.W.mg_none_of X G z0, PySem.W.mg_none_of X G z1, PySem.W.mg_none_of X G z2, PySem.W.mg_none_of X G z3, PySem.W.mg_none_of X G z4, PySem.W.mg_none_of X G z5, PySem.W.mg_none_of X G z6, PySem.W.mg_none_of X G z7, PySem.W.mg_none_of X G z8, PySem.W.mg_none_of X G z9, PySem.W.mg_none_of X G z10, PySem.W.mg_none_of X G z11, PySem.W.mg_none_of X G z12⟩
  have Y : Tc K (cxF C0 C1 C2 C3 C4 C5 C6 C7 C8 C9 C10 C11 C12 C13) mg := ⟨PySem.W.mg_of X G u0, PySem.W.mg_of X G u1, PySem.W.mg_of X G u2, PySem.W.mg_of X G u3, PySem.W.mg_of X G u4, PySem.W.mg_of X G u5, PySem.W.mg_of X G u6, PySem.W.mg_of X G u7, PySem.W.mg_of X G u8, PySem.W.mg_of X G u9, PySem.W.mg_of X G u10, PySem.W.mg_of X G u11, PySem.W.mg_of X G u12, PySem.W.mg_of X G u13, v0, xkB_ok v1⟩
  have F0 := fun_mk (st := s_is_from) l0 c0 k0
  have b0 := F0.binds (ps := ["thing", "least", "most"]) fun _ _ _ _ _ _ us hl => match us, hl with | [_, _, _], _ => rfl
  have F1 := fun_mk (st := s_is_from_i) l1 c1 k1
  have b1 := F1.binds (ps := ["thing", "least", "most"]) fun _ _ _ _ _ _ us hl => match us, hl with | [_, _, _], _ => rfl
  have F2 := fun_mk (st := s_part) l2 c2 k2
  have b2 := F2.binds (ps := ["shape", "numbers"]) fun _ _ _ _ _ _ us hl => match us, hl with | [_, _], _ => rfl
  have F3 := fun_mk (st := s_part_i) l3 c3 k3
  have b3 := F3.binds (ps := ["shape", "numbers"]) fun _ _ _ _ _ _ us hl => match us, hl with | [_, _], _ => rfl
  have F4 := fun_mk (st := s_begun) l4 c4 k4
  have b4 := F4.binds (ps := ["shape", "paper", "many"]) fun _ _ _ _ _ _ us hl => match us, hl with | [_, _, _], _ => rfl
  have F5 := fun_mk (st := s_lmixed) l5 c5 k5
  have b5 := F5.binds (ps := ["_law_cell", "_law_k"]) fun _ _ _ _ _ _ us hl => match us, hl with | [_, _], _ => rfl
  have F6 := fun_mk (st := s_ltake) l6 c6 k6
  have b6 := F6.binds (ps := ["_law_state", "_law_many"]) fun _ _ _ _ _ _ us hl => match us, hl with | [_, _], _ => rfl
  have F7 := fun_mk (st := s_lcorners) l7 c7 k7
  have b7 := F7.binds (ps := ["_law_state", "_law_many"]) fun _ _ _ _ _ _ us hl => match us, hl with | [_, _], _ => rfl
  have F8 := fun_mk (st := s_lorder) l8 c8 k8
  have b8 := F8.binds (ps := ["_law_state", "_law_many"]) fun _ _ _ _ _ _ us hl => match us, hl with | [_, _], _ => rfl
  have F9 := fun_mk (st := s_lless) l9 c9 k9
  have b9 := F9.binds (ps := ["_law_piece", "_law_face"]) fun _ _ _ _ _ _ us hl => match us, hl with | [_, _], _ => rfl
  have F10 := fun_mk (st := s_lput) l10 c10 k10
  have b10 := F10.binds (ps := ["_law_there", "_law_piece"]) fun _ _ _ _ _ _ us hl => match us, hl with | [_, _], _ => rfl
  have F11 := fun_mk (st := s_lbrings) l11 c11 k11
  have b11 := F11.binds (ps := ["_law_ahead", "_law_there", "_law_piece"]) fun _ _ _ _ _ _ us hl => match us, hl with | [_, _, _], _ => rfl
  have F12 := fun_mk (st := s_lgrown) l12 c12 k12
  have b12 := F12.binds (ps := ["_law_state", "_law_names", "_law_size", "_law_most"]) fun _ _ _ _ _ _ us hl => match us, hl with | [_, _, _, _], _ => rfl
  have F13 := fun_mk (st := s_lany) l13 c13 k13
  have b13 := F13.binds (ps := ["_law_state", "_law_names", "_law_size", "_law_most"]) fun _ _ _ _ _ _ us hl => match us, hl with | [_, _, _, _], _ => rfl
  have F14 := fun_mk (st := s_lshape) l14 c14 k14
  have b14 := F14.binds (ps := ["_law_state"]) fun _ _ _ _ _ _ us hl => match us, hl with | [_], _ => rfl
  have F15 := fun_mk (st := s_lrows) l15 c15 k15
  have b15 := F15.binds (ps := ["_law_shape_here", "_law_order_here"]) fun _ _ _ _ _ _ us hl => match us, hl with | [_, _], _ => rfl
  have F16 := fun_mk (st := s_lnumbered) l16 c16 k16
  have b16 := F16.binds (ps := ["_law_state", "_law_pieces"]) fun _ _ _ _ _ _ us hl => match us, hl with | [_, _], _ => rfl
  have F17 := fun_mk (st := s_llaid) l17 c17 k17
  have b17 := F17.binds (ps := ["_law_state", "_law_size", "_law_most"]) fun _ _ _ _ _ _ us hl => match us, hl with | [_, _, _], _ => rfl
  have F18 := fun_mk (st := s_lword) l18 c18 k18
  have b18 := F18.binds (ps := ["_law_caught"]) fun _ _ _ _ _ _ us hl => match us, hl with | [_], _ => rfl
  have F19 := fun_mk (st := s_ltold) l19 c19 k19
  have b19 := F19.binds (ps := ["_law_asked"]) fun _ _ _ _ _ _ us hl => match us, hl with | [_], _ => rfl
  have F20 := fun_mk (st := s_ltold_b) l20 c20 k20
  have b20 := F20.binds (ps := ["_law_asked"]) fun _ _ _ _ _ _ us hl => match us, hl with | [_], _ => rfl
  have F21 := fun_mk (st := s_lnumbers) l21 c21 k21
  have b21 := F21.binds (ps := ["_law_state", "_law_many"]) fun _ _ _ _ _ _ us hl => match us, hl with | [_, _], _ => rfl
  have F22 := fun_mk (st := s_lis_number) l22 c22 k22
  have b22 := F22.binds (ps := ["_law_thing", "_law_least", "_law_most"]) fun _ _ _ _ _ _ us hl => match us, hl with | [_, _, _], _ => rfl
  have F23 := fun_mk (st := s_lpart_due) l23 c23 k23
  have b23 := F23.binds (ps := ["_law_shape_here", "_law_numbers_here"]) fun _ _ _ _ _ _ us hl => match us, hl with | [_, _], _ => rfl
  have F24 := fun_mk (st := s_lbegun_due) l24 c24 k24
  have b24 := F24.binds (ps := ["_law_shape_here", "_law_rows_here", "_law_many"]) fun _ _ _ _ _ _ us hl => match us, hl with | [_, _, _], _ => rfl
  have F25 := fun_mk (st := s_lbegun_right) l25 c25 k25
  have b25 := F25.binds (ps := ["_law_state"]) fun _ _ _ _ _ _ us hl => match us, hl with | [_], _ => rfl
  have F26 := fun_mk (st := s_law) l26 c26 k26
  have b26 := F26.binds (ps := ["_law_script"]) fun _ _ _ _ _ _ us hl => match us, hl with | [_], _ => rfl
  refine ⟨PySem.W.fnOf "law" "law" (defArgs s_law) (defBody s_law) (defScope s_law) .none kV26 dc26 pm26 an26 cd26 ct26, fun s v => BindsTo.of_eq rfl, fun base _ _ SM TB TB2 => ?_⟩
  have H0 : Has l.prog w K mg base "is_from" ["thing", "least", "most"] 1 (sp_is_from K) := ⟨f0, _, PySem.W.mg_of X G a0, k0, b0, ok_is_from F0 T⟩
  have H1 : Has l.prog w K mg base "is_from" ["thing", "least", "most"] 1 (sp_is_from_i K) := ⟨f1, _, PySem.W.mg_of X G a1, k1, b1, ok_is_from_i F1 T⟩
  have H2 : HasX l.prog w K mg base "part" ["shape", "numbers"] 2 (sp_part K (cxF C0 C1 C2 C3 C4 C5 C6 C7 C8 C9 C10 C11 C12 C13)) := ⟨f2, _, PySem.W.mg_of X G a2, k2, b2, ok_part F2 T Y H0⟩
  have H3 : Has l.prog w K mg base "part" ["shape", "numbers"] 2 (sp_part_i K) := ⟨f3, _, PySem.W.mg_of X G a3, k3, b3, ok_part_i F3 T H1⟩
  have H4 : HasX l.prog w K mg base "begun" ["shape", "paper", "many"] 3 (sp_begun K (cxF C0 C1 C2 C3 C4 C5 C6 C7 C8 C9 C10 C11 C12 C13)) := ⟨f4, _, PySem.W.mg_of X G a4, k4, b4, ok_begun F4 T Y H0 H3⟩
  have H5 : Has l.prog w K mg base "_law_mixed" ["_law_cell", "_law_k"] 1 (sp_lmixed K) := ⟨f5, _, PySem.W.mg_of X G a5, k5, b5, ok_lmixed F5 T⟩
  have H6 : Has l.prog w K mg base "_law_take" ["_law_state", "_law_many"] 2 (sp_ltake K) := ⟨f6, _, PySem.W.mg_of X G a6, k6, b6, ok_ltake F6 T H5⟩
  have H7 : Has l.prog w K mg base "_law_corners" ["_law_state", "_law_many"] 3 (sp_lcorners K) := ⟨f7, _, PySem.W.mg_of X G a7, k7, b7, ok_lcorners F7 T H6⟩
  have H8 : Has l.prog w K mg base "_law_order" ["_law_state", "_law_many"] 3 (sp_lorder K) := ⟨f8, _, PySem.W.mg_of X G a8, k8, b8, ok_lorder F8 T H6⟩
  have H9 : Has l.prog w K mg base "_law_less" ["_law_piece", "_law_face"] 1 (sp_lless K) := ⟨f9, _, PySem.W.mg_of X G a9, k9, b9, ok_lless F9 T⟩
  have H10 : Has l.prog w K mg base "_law_put" ["_law_there", "_law_piece"] 2 (sp_lput K) := ⟨f10, _, PySem.W.mg_of X G a10, k10, b10, ok_lput F10 T H9⟩
  have H11 : Has l.prog w K mg base "_law_brings" ["_law_ahead", "_law_there", "_law_piece"] 2 (sp_lbrings K) := ⟨f11, _, PySem.W.mg_of X G a11, k11, b11, ok_lbrings F11 T H9⟩
  have H12 : Has l.prog w K mg base "_law_grown" ["_law_state", "_law_names", "_law_size", "_law_most"] 3 (sp_lgrown K) := ⟨f12, _, PySem.W.mg_of X G a12, k12, b12, ok_lgrown F12 T H10 H6 H9 H11⟩
  have H13 : Has l.prog w K mg base "_law_any" ["_law_state", "_law_names", "_law_size", "_law_most"] 3 (sp_lany K) := ⟨f13, _, PySem.W.mg_of X G a13, k13, b13, ok_lany F13 T H6⟩
  have H14 : Has l.prog w K mg base "_law_shape" ["_law_state"] 4 (sp_lshape K) := ⟨f14, _, PySem.W.mg_of X G a14, k14, b14, ok_lshape F14 T H6 H7 H13 H12 H8⟩
  have H15 : Has l.prog w K mg base "_law_rows" ["_law_shape_here", "_law_order_here"] 3 (sp_lrows K) := ⟨f15, _, PySem.W.mg_of X G a15, k15, b15, ok_lrows F15 T H11 H10⟩
  have H16 : Has l.prog w K mg base "_law_numbered" ["_law_state", "_law_pieces"] 4 (sp_lnumbered K) := ⟨f16, _, PySem.W.mg_of X G a16, k16, b16, ok_lnumbered F16 T H8 H15⟩
  have H17 : Has l.prog w K mg base "_law_laid" ["_law_state", "_law_size", "_law_most"] 5 (sp_llaid K) := ⟨f17, _, PySem.W.mg_of X G a17, k17, b17, ok_llaid F17 T H6 H7 H12 H16⟩
  have H18 : Has l.prog w K mg base "_law_word" ["_law_caught"] 1 (sp_lword K (cxF C0 C1 C2 C3 C4 C5 C6 C7 C8 C9 C10 C11 C12 C13)) := ⟨f18, _, PySem.W.mg_of X G a18, k18, b18, ok_lword F18 T Y⟩
  have H19 : GivT l.prog w K mg base 4 "_law_told" "_law_asked" (tt_ltold K (cxF C0 C1 C2 C3 C4 C5 C6 C7 C8 C9 C10 C11 C12 C13)) := gv_ltold F19 T Y H18 (PySem.W.mg_of X G a19) b19
  have H20 : GivT l.prog w K mg base 4 "_law_told" "_law_asked" (tt_ltold_b K (cxF C0 C1 C2 C3 C4 C5 C6 C7 C8 C9 C10 C11 C12 C13)) := gv_ltold_b F20 T Y H18 (PySem.W.mg_of X G a20) b20
  have H21 : Has l.prog w K mg base "_law_numbers" ["_law_state", "_law_many"] 4 (sp_lnumbers K) := ⟨f21, _, PySem.W.mg_of X G a21, k21, b21, ok_lnumbers F21 T H8 H6⟩
  have H22 : Has l.prog w K mg base "_law_is_number" ["_law_thing", "_law_least", "_law_most"] 1 (sp_lis_number K) := ⟨f22, _, PySem.W.mg_of X G a22, k22, b22, ok_lis_number F22 T⟩
  have H23 : Has l.prog w K mg base "_law_part_due" ["_law_shape_here", "_law_numbers_here"] 2 (sp_lpart_due K) := ⟨f23, _, PySem.W.mg_of X G a23, k23, b23, ok_lpart_due F23 T H22⟩
  have H24 : Has l.prog w K mg base "_law_begun_due" ["_law_shape_here", "_law_rows_here", "_law_many"] 2 (sp_lbegun_due K) := ⟨f24, _, PySem.W.mg_of X G a24, k24, b24, ok_lbegun_due F24 T H22⟩
  have H25 : HasG l.prog w K mg base "_law_begun_right" ["_law_state"] 6 (sp_lbegun_right K Pt2 (qLam "_law_begun_right" (defScope s_lbegun_right))) := ⟨f25, _, PySem.W.mg_of X G a25, k25, b25, ok_lbegun_right F25 T TB2 (tab_code tb2 a25 l25) Y H6 H17 H24 H20 H4⟩
  exact ok_law F26 T TB (tab_code tb a26 l26) SM Y H14 H21 H23 H19 H2 H25
end Ws
open PySem PySem.W PyProof.Rows in
set_option maxRecDepth 100000 in
set_option maxHeartbeats 0 in
theorem PySem.Challenge.cw_wholesides_k35_parts_and_beginnings_holds : PySem.Challenge.rw_wholesides_k35_parts_and_beginnings.Holds := by
  w_on; o_law; k_head; (case hw => w_witness2)
  k_fill
  refine Ws.walkTS (l := PySem.Challenge.rw_wholesides_k35_parts_and_beginnings) (n := 63) (k := 7) (x := "_law_script") rfl (by decide) rfl ⟨rfl, by decide, by decide⟩ ?hi (fun w h Y => PySem.W.km_in_of Y) ?F
  (case hi => kernel_rfl)
  case F =>
    intro w mg fa h KX G hmg
    refine Ws.lawT_end2 "law" "_law_begun_right" (sp := fun Pt Pt2 => Ws.sp_law _ Pt (Ws.qLam "law" (L2.defScope Ws.s_law)) Pt2 (Ws.qLam "_law_begun_right" (L2.defScope Ws.s_lbegun_right))) ?mn ?tr ?tr2 ?tb (fun H a ns Pt Pt2 h1 h2 h3 h4 h5 h6 h7 => Ws.lawT_go2 h1 h2 h3 h4 h5 h6 h7 (Ws.law_true ns))
    (case tr => decide +kernel)
    (case tr2 => decide +kernel)
    (case tb => kernel_rfl)
    intro c Pt c2 Pt2 tb tb2
    refine' Ws.all_mk KX G hmg ?a0 ?l0 ?c0 ?k0 ?a1 ?l1 ?c1 ?k1 ?a2 ?l2 ?c2 ?k2 ?a3 ?l3 ?c3 ?k3 ?a4 ?l4 ?c4 ?k4 ?a5 ?l5 ?c5 ?k5 ?a6 ?l6 ?c6 ?k6 ?a7 ?l7 ?c7 ?k7 ?a8 ?l8 ?c8 ?k8 ?a9 ?l9 ?c9 ?k9 ?a10 ?l10 ?c10 ?k10 ?a11 ?l11 ?c11 ?k11 ?a12 ?l12 ?c12 ?k12 ?a13 ?l13 ?c13 ?k13 ?a14 ?l14 ?c14 ?k14 ?a15 ?l15 ?c15 ?k15 ?a16 ?l16 ?c16 ?k16 ?a17 ?l17 ?c17 ?k17 ?a18 ?l18 ?c18 ?k18 ?a19 ?l19 ?c19 ?k19 ?a20 ?l20 ?c20 ?k20 ?a21 ?l21 ?c21 ?k21 ?a22 ?l22 ?c22 ?k22 ?a23 ?l23 ?c23 ?k23 ?a24 ?l24 ?c24 ?k24 ?a25 ?l25 ?c25 ?k25 ?a26 ?l26 ?c26 ?k26 ?z0 ?z1 ?z2 ?z3 ?z4 ?z5 ?z6 ?z7 ?z8 ?z9 ?z10 ?z11 ?z12 ?u0 ?u1 ?u2 ?u3 ?u4 ?u5 ?u6 ?u7 ?u8 ?u9 ?u10 ?u11 ?u12 ?u13 ?v0 ?v1 tb tb2
    (case u0 => k_is)
    (case u1 => k_is)
    (case u2 => k_is)
    (case u3 => k_is)
    (case u4 => k_is)
    (case u5 => k_is)
    (case u6 => k_is)
    (case u7 => k_is)
    (case u8 => k_is)
    (case u9 => k_is)
    (case u10 => k_is)
    (case u11 => k_is)
    (case u12 => k_is)
    (case u13 => k_is)
    (case a0 => k_is)
    (case l0 => k_is)
    (case c0 => k_is)
    (case k0 => k_is)
    (case a1 => k_is)
    (case l1 => k_is)
    (case c1 => k_is)
    (case k1 => k_is)
    (case a2 => k_is)
    (case l2 => k_is)
    (case c2 => k_is)
    (case k2 => k_is)
    (case a3 => k_is)
    (case l3 => k_is)
    (case c3 => k_is)
    (case k3 => k_is)
    (case a4 => k_is)
    (case l4 => k_is)
    (case c4 => k_is)
    (case k4 => k_is)
    (case a5 => k_is)
    (case l5 => k_is)
    (case c5 => k_is)
    (case k5 => k_is)
    (case a6 => k_is)
    (case l6 => k_is)
    (case c6 => k_is)
    (case k6 => k_is)
    (case a7 => k_is)
    (case l7 => k_is)
    (case c7 => k_is)
    (case k7 => k_is)
    (case a8 => k_is)
    (case l8 => k_is)
    (case c8 => k_is)
    (case k8 => k_is)
    (case a9 => k_is)
    (case l9 => k_is)
    (case c9 => k_is)
    (case k9 => k_is)
    (case a10 => k_is)
    (case l10 => k_is)
    (case c10 => k_is)
    (case k10 => k_is)
    (case a11 => k_is)
    (case l11 => k_is)
    (case c11 => k_is)
    (case k11 => k_is)
    (case a12 => k_is)
    (case l12 => k_is)
    (case c12 => k_is)
    (case k12 => k_is)
    (case a13 => k_is)
    (case l13 => k_is)
    (case c13 => k_is)
    (case k13 => k_is)
    (case a14 => k_is)
    (case l14 => k_is)
    (case c14 => k_is)
    (case k14 => k_is)
    (case a15 => k_is)
    (case l15 => k_is)
    (case c15 => k_is)
    (case k15 => k_is)
    (case a16 => k_is)
    (case l16 => k_is)
    (case c16 => k_is)
    (case k16 => k_is)
    (case a17 => k_is)
    (case l17 => k_is)
    (case c17 => k_is)
    (case k17 => k_is)
    (case a18 => k_is)
    (case l18 => k_is)
    (case c18 => k_is)
    (case k18 => k_is)
    (case a19 => k_is)
    (case l19 => k_is)
    (case c19 => k_is)
    (case k19 => k_is)
    (case a20 => k_is)
    (case l20 => k_is)
    (case c20 => k_is)
    (case k20 => k_is)
    (case a21 => k_is)
    (case l21 => k_is)
    (case c21 => k_is)
    (case k21 => k_is)
    (case a22 => k_is)
    (case l22 => k_is)
    (case c22 => k_is)
    (case k22 => k_is)
    (case a23 => k_is)
    (case l23 => k_is)
    (case c23 => k_is)
    (case k23 => k_is)
    (case a24 => k_is)
    (case l24 => k_is)
    (case c24 => k_is)
    (case k24 => k_is)
    (case a25 => k_is)
    (case l25 => k_is)
    (case c25 => k_is)
    (case k25 => k_is)
    (case a26 => k_is)
    (case l26 => k_is)
    (case c26 => k_is)
    (case k26 => k_is)
    (case z0 => k_is)
    (case z1 => k_is)
    (case z2 => k_is)
    (case z3 => k_is)
    (case z4 => k_is)
    (case z5 => k_is)
    (case z6 => k_is)
    (case z7 => k_is)
    (case z8 => k_is)
    (case z9 => k_is)
    (case z10 => k_is)
    (case z11 => k_is)
    (case z12 => k_is)
    (case v0 => kernel_rfl)
    (case v1 => kernel_rfl)
