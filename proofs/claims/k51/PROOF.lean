import PyProof.Rows.All
import Wide.All
import OpenK.AllK
import Wide.FinOn
import HandS.ForMost
import HandS.NoneIn
import HandS.CallLocal
import PyProof.ReprRoads
import KE.SortKeyHeap
import HandS.SortKw
import HandS.Strs
import HandS.SetFor
import HandS.TupAny
import HandS.TupSets
import HandS.Style
import HandS.Conv
import HandS.Deep
import HandS.IsInst
import HandS.Steps
import HandS.Small
import HandS.Dict
import HandS.WordsDict
import HandS.TupLen
import KE.KDictSum
import HandS.Exc
import HandS.ExcIs
import HandS.ExcOwn
import HandS.WordsExc
import KE.KExcIs
import HandS.ExcInit
import HandS.ExcField
import HandS.Lambda
import HandS.TupMul
import KE.KDictDisplayH
import HandS.Wide
import HandS.List
import HandS.TryOnly
import PyProof.SeqIndex
import KE.KDictWalk
import KE.KDictLaws
import PyProof.DictMoreH
import KE.GoesEnum
import HandS.WideBits
import KE.DataMinMax
import PyProof.Rows.RowBridgeK
import KE.KDictPairs
import HandS.DictTup
import HandS.Text
import HandS.Records
import HandS.HotCalls
import HandS.ExcCtx
import PyProof.Seq
import PyProof.MinMaxWalk
import PySem.Challenge.RW_wholesides_k51_bars_as_texts
set_option Elab.async false
set_option linter.all false
set_option maxRecDepth 100000
set_option maxHeartbeats 4000000
namespace Ws
open PySem PySem.Spec PyProof.Rows L2
/-- a def's promise, kept wherever the stack bears no running repr -/
structure FnG (P : Program) (w : World) (K : PySem.W.Frag) (mg : Str → Option Value) (base : Heap) (k : Nat) (f : Addr) (fd : FuncData) (ps : List Str) (sp : Sp) : Prop where
  len : ∀ vs H Q E, sp vs H Q E → vs.length = ps.length
  run : ∀ (A : Around) (outer : List Env) (s : Shared) (H : Hp) (args : Args) (us : List Value) (vs : List V) (Q : VK) (E : XK), A.guards = some [] → Room k A →
    Env0 P w K mg base A outer s H → BindsTo s fd args (ps.zip us) → Vals vs us → sp vs H Q E → codeAny (model P w) A (.call (.ref f) args) (CR CX0 outer P w H s Q E) s
section
variable {P : Program} {w : World} {K : PySem.W.Frag} {mg : Str → Option Value} {base : Heap} {k : Nat} {f : Addr} {fd : FuncData} {ps : List Str} {sp : Sp}
theorem FnG.of (F : FnOk P w K mg base CX0 k f fd ps sp) : FnG P w K mg base k f fd ps sp :=
  ⟨F.len, fun A outer s H args us vs Q E _ => F.run A outer s H args us vs Q E⟩
theorem FnG.up {j : Nat} (F : FnG P w K mg base j f fd ps sp) (h : j ≤ k) : FnG P w K mg base k f fd ps sp :=
  ⟨F.len, fun A outer s H args us vs Q E hg hr => F.run A outer s H args us vs Q E hg (hr.mono h)⟩
/-- the body of such a def: what is known besides is that no repr runs -/
theorem okG {x qual : Str} {st : Stmt} {N : List Str} (F : Fun K x qual st f fd) (S : FnScope N ps (defScope st)) (len : ∀ vs H Q E, sp vs H Q E → vs.length = ps.length)
    (hbody : ∀ (cdv : Value) (A : Around) (outer : List Env) (s : Shared) (H : Hp) (vs : List V) (Q : VK) (E : XK), (A.deeper (envOfC qual (defScope st) s.heap.objs.size f cdv)).guards = some [] →
      Room k (A.deeper (envOfC qual (defScope st) s.heap.objs.size f cdv)) → sp vs H Q E →
      ∃ t, PSs (cxOf CX0 P w K mg base N qual (defScope st) f cdv A outer s H E).nox (defBody st) t ∧ t { nx := fun _ H' => Q .non H', rt := Q } (start N vs) H) :
    FnG P w K mg base (k + 1) f fd ps sp := by
  obtain ⟨oc, od, kV, doc, pm, an, cdv, ct, osl, rfl, lk, hcd⟩ := F.ex
  refine ⟨len, fun A outer s H args us vs Q E hg hr e0 hb r hsp => ?_⟩
  have kept : ∀ b o, base.get? b = some o → s.heap.get? b = some o := fun b o e => (e0.bs b o e).1
  have KX : K.In s.heap := e0.mod.kin.keeps kept
  refine codeAny_call_function hr.depth (KX _ _ lk) rfl S.co S.gen rfl (PySem.W.codeRec_of KX hcd) (hb _ _ _ _ ?_)
  refine wpAny_newFunctionEnv_cells S.kind (fun y hy => ?_) fun env he s1 x => ?_
  · rcases S.par y.1 (List.of_mem_zip (show (y.1, y.2) ∈ ps.zip us from hy)).1 with q | q
    · exact .inl q
    · exact .inr ⟨q, PySem.W.cellsFrom_some _ _ _ (.inl q)⟩
  · subst he
    obtain ⟨t, ht, hq⟩ := hbody cdv A outer s H vs Q E hg (hr.deeper _) hsp
    refine ⟨(e0.mod.nolimit.keeps kept).keeps x.toInCall.keep, codeAny_func (wpAny_mono (ht.nox.run [] s1 (start N vs) H _ (inv_start S hr.hd e0 (len _ _ _ _ hsp) r x) hq) (fun fl s' hs => ?_) fun e s' hs => hs)⟩
    cases fl with
    | ret u => exact let ⟨v, _, H', J, rv, q⟩ := hs; ⟨v, H', J.os, J.bare, J.base, J.hok, rv, q⟩
    | next => exact let ⟨_, H', J, q⟩ := hs; ⟨V.non, H', J.os, J.bare, J.base, J.hok, rfl, q⟩
    | brk => exact let ⟨_, _, _, q⟩ := hs; q.elim
    | cont => exact let ⟨_, _, _, q⟩ := hs; q.elim
end
/-- the module's name x holds a def that keeps sp -/
structure Has (P : Program) (w : World) (K : PySem.W.Frag) (mg : Str → Option Value) (base : Heap) (x : Str) (ps : List Str) (k : Nat) (sp : Sp) : Prop where
  ex : ∃ (f : Addr) (fd : FuncData), mg x = some (.ref f) ∧ PySem.W.keepIn K (.ref f) = true ∧ Binds K fd ps [] ∧ FnOk P w K mg base CX0 k f fd ps sp
structure HasG (P : Program) (w : World) (K : PySem.W.Frag) (mg : Str → Option Value) (base : Heap) (x : Str) (ps : List Str) (k : Nat) (sp : Sp) : Prop where
  ex : ∃ (f : Addr) (fd : FuncData), mg x = some (.ref f) ∧ PySem.W.keepIn K (.ref f) = true ∧ Binds K fd ps [] ∧ FnG P w K mg base k f fd ps sp
section
variable {X : Cx} {x : Str} {ps : List Str} {k : Nat} {sp : Sp} {p pos : Pos} {e : Expr} {es : List Expr} {t : TA}
theorem Has.g {P : Program} {w : World} {K : PySem.W.Frag} {mg : Str → Option Value} {base : Heap} (h : Has P w K mg base x ps k sp) : HasG P w K mg base x ps k sp :=
  let ⟨f, fd, h1, h2, h3, h4⟩ := h.ex
  ⟨f, fd, h1, h2, h3, .of h4⟩
theorem pe_h (h : Has X.prog X.w X.K X.mg X.base x ps k sp) (hr : Room k X.A) (hg : Gl X x) (ha : PA X (e :: es) t) (hdb : (x == ("__debug__" : Str)) = false := by decide)
    (he : starEach (e :: es) X.env = (false, eval e X.env) :: starEach es X.env := by rfl) (hpl : (backTo pos (starEach es X.env)).any (·.1) = false := by rfl) :
    PE X (.Call (.Name x p) (e :: es) [] pos) (tCall sp [] E0 t) := by
  obtain ⟨f, fd, hm, hk, hb, F⟩ := h.ex
  exact pe_call F hr hg hm hk hb .nil pass0 ha hdb he hpl
/-- a call of a def that needs to know that no repr runs -/
theorem pe_g (h : HasG X.prog X.w X.K X.mg X.base x ps k sp) (hq : X.A.guards = some []) (hr : Room k X.A) (hg : Gl X x) (ha : PA X (e :: es) t) (hdb : (x == ("__debug__" : Str)) = false := by decide)
    (he : starEach (e :: es) X.env = (false, eval e X.env) :: starEach es X.env := by rfl) (hpl : (backTo pos (starEach es X.env)).any (·.1) = false := by rfl) :
    PE X (.Call (.Name x p) (e :: es) [] pos) (tCall sp [] E0 t) := by
  obtain ⟨f, fd, hm, hk, hb, F⟩ := h.ex
  refine ⟨fun pins s σ H Q I hw => wpAny_Call_Name_kw (ld_glob I hg hm ?_ hdb)⟩
  refine PySem.W.callWith_K (h₀ := X.base) I.ok.mod.kin hk (thn (ha.run pos pins s σ H _ I hw) fun us s1 ⟨vs, H1, I1, r, q⟩ => ⟨I1.kIn, ?_⟩) he hpl
  have r2 : Vals (vs ++ []) (us ++ []) := r.append .nil
  have hl : (us ++ []).length = ps.length := r2.length.symm.trans (F.len _ _ _ _ q)
  refine wpAny_call (codeAny_mono (F.run X.A X.stack s1 H1 ⟨us, []⟩ _ _ Q E0 hq hr I1.env0 (hb s1 us I1.kIn hl) r2 q) fun res s' hs => ?_)
  match res, hs with
  | .error _, z => exact False.elim z
  | .ok (.ret u), z => exact I1.after z
  | .ok .next, z => exact False.elim z
  | .ok .brk, z => exact False.elim z
  | .ok .cont, z => exact False.elim z
end
/-- a statement, then the rest; between them a word, from which the rest is shown once -/
def tCut (t u : TS) : TS := fun D σ H => ∃ M : L2.St → Hp → Prop, t { D with nx := M } σ H ∧ ∀ σ' H', M σ' H' → u D σ' H'
theorem pss_cut {X : Cx} {st : Stmt} {rest : List Stmt} {t u : TS} (h1 : PS X st t) (h2 : PSs X rest u) : PSs X (st :: rest) (tCut t u) := by
  refine ⟨fun pins s σ H D I ⟨M, hm, hu⟩ => wpAny_execs_cons (thn (h1.run pins s σ H _ I hm) fun f s1 q => ?_)⟩
  match f, q with
  | .next, ⟨σ', H', I', m⟩ => exact h2.run pins s1 σ' H' D I' (hu σ' H' m)
  | .ret _, q => exact q
  | .brk, q => exact q
  | .cont, q => exact q
def tCallF (P : Program) (w : World) (K : PySem.W.Frag) (mg : Str → Option Value) (base : Heap) (k i : Nat) (t : TA) : TE := fun σ H Q => ∃ f sp, σ[i]? = some (some (.ref f)) ∧ Held P w K mg base k f sp ∧ t σ H fun vs H1 => sp vs H1 Q E0
theorem pe_callF {X : Cx} {k i : Nat} {x : Str} {p pos : Pos} {e : Expr} {es : List Expr} {t : TA} (hr : Room k X.A) (hN : X.N[i]? = some x) (hv : Vis X.env.scope x) (ha : PA X (e :: es) t)
    (hdb : (x == ("__debug__" : Str)) = false := by decide) (hcd : (x == ("__classdict__" : Str)) = false := by decide)
    (he : starEach (e :: es) X.env = (false, eval e X.env) :: starEach es X.env := by rfl) (hpl : (backTo pos (starEach es X.env)).any (·.1) = false := by rfl) :
    PE X (.Call (.Name x p) (e :: es) [] pos) (tCallF X.prog X.w X.K X.mg X.base k i t) := by
  classical
  refine ⟨fun pins s σ H Q I h => ?_⟩
  obtain ⟨f, sp, h1, h2, h3⟩ := h
  exact (pe_callA (k := k) (i := i) (S := fun g => if g = f then some sp else none) (fun g sp' e => by
    by_cases hgf : g = f
    · rw [if_pos hgf] at e
      cases e
      exact hgf ▸ h2
    · rw [if_neg hgf] at e
      cases e) hr hN hv ha hdb hcd he hpl).run pins s σ H Q I ⟨f, sp, h1, if_pos rfl, h3⟩
theorem Has.held {P : Program} {w : World} {K : PySem.W.Frag} {mg : Str → Option Value} {base : Heap} {x : Str} {ps : List Str} {k : Nat} {sp : Sp} {f : Addr} (h : Has P w K mg base x ps k sp) (g : mg x = some (.ref f)) : Held P w K mg base k f sp := by
  obtain ⟨f', fd, h1, h2, h3, h4⟩ := h.ex
  rw [g] at h1
  cases h1
  exact ⟨fd, ps, h4, h2, h3⟩
mutual
/-- ints below 10 ^ k in size, no dict -/
def small (k : Nat) : PyData → Bool
  | .none | .bool _ | .str _ => true
  | .int i => decide (i.natAbs < 10 ^ k)
  | .list xs | .tuple xs => smallAll k xs
  | .dict _ => false
def smallAll (k : Nat) : List PyData → Bool
  | [] => true
  | x :: xs => small k x && smallAll k xs
end
mutual
/-- how many signs its text may have -/
def cost (k : Nat) : PyData → Nat
  | .none => 4
  | .bool _ => 5
  | .int _ => k + 1
  | .str s => (reprText s).length
  | .list xs | .tuple xs => costAll k xs + 4
  | .dict _ => 0
def costAll (k : Nat) : List PyData → Nat
  | [] => 0
  | x :: xs => cost k x + 2 + costAll k xs
end
theorem textFrom_le : ∀ (ts : List Str) (k : Nat) (acc : Str), (textFrom k acc ts).length ≤ acc.length + piled ts
  | [], _, _ => by simp [textFrom, piled]
  | t :: r, k, acc => by
    have h := textFrom_le r (k + 1) (acc ++ (if k > 0 then ", " else "" : String) ++ t)
    have e : ((if k > 0 then ", " else "" : String) : Str).length ≤ 2 := by split <;> decide +kernel
    rw [strLen_append, strLen_append] at h
    rw [piled_cons]
    show (textFrom (k + 1) _ r).length ≤ _
    omega
theorem listText_le (ts : List Str) : (listText ts).length ≤ piled ts + 2 := by
  have h := textFrom_le ts 0 "["
  have e1 : (("[" : String) : Str).length = 1 := rfl
  have e2 : (("]" : String) : Str).length = 1 := rfl
  unfold listText
  rw [strLen_append, e2]
  omega
theorem tupleText_le (ts : List Str) : (tupleText ts).length ≤ piled ts + 4 := by
  have e3 : (((if ts.length == 1 then ",)" else ")" : String) : Str)).length ≤ 2 := by split <;> decide +kernel
  have e1 : ((("(" : String) : Str)).length = 1 := rfl
  unfold tupleText
  rw [strLen_append, strLen_append, e1]
  by_cases h : ts = []
  · subst h
    have e : (Str.join ", " []).length = 0 := rfl
    omega
  · have := join_length_add ts h
    omega
theorem int_le {i : Int} {k : Nat} (hk : 0 < k) (h : i.natAbs < 10 ^ k) : (Str.ofString (toString i)).length ≤ k + 1 := by
  rw [PySem.ofString_length]
  exact int_text_length_le10 hk h
theorem log_small {i : Int} {k : Nat} (hk : k ≤ 500) (h : i.natAbs < 10 ^ k) : i.natAbs.log2 < 1920 := by
  by_cases h0 : i.natAbs = 0
  · rw [h0]
    decide
  · rw [Nat.log2_lt h0]
    have h1 : 10 ^ k ≤ 10 ^ 500 := Nat.pow_le_pow_right (by decide) hk
    have h2 : (10 : Nat) ^ 500 < 2 ^ 1920 := by decide +kernel
    exact Nat.lt_of_lt_of_le h (Nat.le_trans h1 (Nat.le_of_lt h2))
structure Ch (S : List Addr) (H H' : Hp) : Prop where
  keep : ∀ b o, b ∉ S → H b = some o → H' b = some o
  tup : ∀ b xs, H b = some (.tup xs) → H' b = some (.tup xs)
  frz : ∀ b o u, H b = some (.frz o u) → H' b = some (.frz o u)
/-- a list that is read and never written: the script -/
def Fz (K : PySem.W.Frag) (H : Hp) (a : Addr) (xs : List V) : Prop := (∃ o, H a = some (.frz o (.lst xs))) ∨ ∀ H', SqL K H' a xs
section
variable {K : PySem.W.Frag} {S S' : List Addr} {H H' H1 H2 : Hp} {p q a l : Addr} {o u : HO} {xs ys : List V}
theorem Ch.refl : Ch S H H := ⟨fun _ _ _ h => h, fun _ _ h => h, fun _ _ _ h => h⟩
theorem Ch.trans (c : Ch S H H1) (d : Ch S H1 H2) : Ch S H H2 := ⟨fun b o n h => d.keep b o n (c.keep b o n h), fun b xs h => d.tup b xs (c.tup b xs h), fun b o u h => d.frz b o u (c.frz b o u h)⟩
theorem Ch.mono (c : Ch S H H') (h : ∀ b ∈ S, b ∈ S') : Ch S' H H' := ⟨fun b o n e => c.keep b o (fun z => n (h b z)) e, c.tup, c.frz⟩
theorem Ch.lst (c : Ch [] H H') (h : H l = some o) : H' l = some o := c.keep l o List.not_mem_nil h
theorem Fz.sql (h : Fz K H a xs) : SqL K H a xs := by
  rcases h with ⟨o, h⟩ | h
  · exact .inl (.inr ⟨o, h⟩)
  · exact h H
theorem Ch.sqt (c : Ch S H H') (h : SqT K H a xs) : SqT K H' a xs := by
  rcases h with (h | ⟨o, h⟩) | h
  · exact .inl (.inl (c.tup _ _ h))
  · exact .inl (.inr ⟨o, c.frz _ _ _ h⟩)
  · exact .inr h
theorem Ch.sql (c : Ch [] H H') (h : SqL K H a xs) : SqL K H' a xs := by
  rcases h with (h | ⟨o, h⟩) | h
  · exact .inl (.inl (c.lst h))
  · exact .inl (.inr ⟨o, c.frz _ _ _ h⟩)
  · exact .inr h
theorem Ch.new (h : H p = none) : Ch S H (upd H p o) := by
  have k : ∀ b u, H b = some u → upd H p o b = some u := fun b u e => by
    rw [upd_ne (ne_of_none e h)]
    exact e
  exact ⟨fun b u _ e => k b u e, fun b xs e => k _ _ e, fun b o u e => k _ _ e⟩
/-- a list is changed -/
theorem Ch.put (h : H p = some (.lst xs)) : Ch [p] H (upd H p o) := by
  refine ⟨fun b u n e => ?_, fun b xs e => ?_, fun b o u e => ?_⟩
  · rw [upd_ne (by simpa using n)]
    exact e
  · rw [upd_ne (ne_of e h (by intro z; cases z))]
    exact e
  · rw [upd_ne (ne_of e h (by intro z; cases z))]
    exact e
theorem ne_new (h : H l = some o) (h' : H p = none) : l ≠ p := ne_of_none h h'
end
section
variable {K : PySem.W.Frag} {σ : L2.St} {H : Hp} {Q : VK} {QB : Bool → Hp → Prop} {ta tb tc te : TE} {tt tu : TT} {x y v : V} {D : Ends} {s1 s2 : TS} {i j : Int} {n : Nat} {p a : Addr} {xs ys : List V}
/-- a new object o is laid -/
def New (H : Hp) (o : HO) (Q : VK) : Prop := ∀ p, H p = none → Q (.ref p) (upd H p o)
end
section
variable {X : Cx} {H : Hp} {Q : VK} {i j : Int}
def rAdd : R2 := rI0 fun i j => .int (i + j)
def rSub : R2 := rI0 fun i j => .int (i - j)
def rMul : R2 := rI CMul fun i j => .int (i * j)
def rDiv : R2 := rI CDiv fun i j => .int (i / j)
def rMod : R2 := rI (fun _ j => 0 < j) fun i j => .int (i % j)
def rPow : R2 := rI CPow fun i j => .int (i ^ j.toNat)
def rLt : R2 := rI0 fun i j => .bl (decide (i < j))
def rLe : R2 := rI0 fun i j => .bl (decide (i ≤ j))
def rGt : R2 := rI0 fun i j => .bl (decide (j < i))
def rGe : R2 := rI0 fun i j => .bl (decide (j ≤ i))
def rAddS : R2 := fun x y H Q => ∃ i j, x = .str i ∧ y = .str j ∧ i.length + j.length ≤ sizeLine ∧ Q (.str (i ++ j)) H
theorem o_add : OpR X (binaryOp .Add) rAdd := op_add
theorem o_sub : OpR X (binaryOp .Sub) rSub := op_sub
theorem o_mul : OpR X (binaryOp .Mult) rMul := op_mul
theorem o_div : OpR X (binaryOp .FloorDiv) rDiv := op_fdiv
theorem o_mod : OpR X (binaryOp .Mod) rMod := op_mod
theorem o_pow : OpR X (binaryOp .Pow) rPow := op_pow
theorem o_lt : OpR X (compareOp .Lt) rLt := op_lt
theorem o_le : OpR X (compareOp .LtE) rLe := op_le
theorem o_gt : OpR X (compareOp .Gt) rGt := op_gt
theorem o_ge : OpR X (compareOp .GtE) rGe := op_ge
theorem o_adds : OpR X (binaryOp .Add) rAddS := op_add_str
end
section
variable {X : Cx}
def rLenL (K : PySem.W.Frag) : List V → Hp → VK → Prop := fun xs H Q => ∃ p ys, xs = [.ref p] ∧ (SqL K H p ys ∨ SqT K H p ys) ∧ Q (.int ys.length) H
theorem cr_len : CallR X (.builtin "len") (rLenL X.K) := call_len_seq
def rAbs : List V → Hp → VK → Prop := fun xs H Q => ∃ i, xs = [.int i] ∧ Q (.int (if i < 0 then -i else i)) H
theorem cr_abs : CallR X (.builtin "abs") rAbs := call_abs
variable {K : PySem.W.Frag} {H : Hp} {Q : VK} {p : Addr} {xs : List V} {i : Int}
end
section
variable {X : Cx}
def rLenStr : List V → Hp → VK → Prop := fun xs H Q => ∃ z, xs = [.str z] ∧ z.length ≤ sizeLine ∧ Q (.int z.length) H
theorem cr_lenS : CallR X (.builtin "len") rLenStr := call_len_str
def rStr : List V → Hp → VK → Prop := fun xs H Q => ∃ i, xs = [.int i] ∧ i.natAbs.log2 < 1920 ∧ Q (.str (toString i)) H
theorem cr_str : CallR X (.type "str") rStr := call_str_int
def rIntB : List V → Hp → VK → Prop := fun xs H Q => (∃ i, xs = [.int i] ∧ Q (.int i) H) ∨ ∃ k, xs = [.bl k] ∧ Q (.int (if k then 1 else 0)) H
theorem cr_intB : CallR X (.type "int") rIntB := call_int1
def rListOf (K : PySem.W.Frag) : List V → Hp → VK → Prop := fun xs H Q => ∃ p ys, xs = [.ref p] ∧ (SqL K H p ys ∨ SqT K H p ys) ∧ ∀ l, H l = none → Q (.ref l) (upd H l (.lst ys))
theorem cr_list : CallR X (.type "list") (rListOf X.K) := call_list_of
def rTupOf (K : PySem.W.Frag) : List V → Hp → VK → Prop := fun xs H Q => ∃ p ys, xs = [.ref p] ∧ ((SqL K H p ys ∧ ∀ l, H l = none → Q (.ref l) (upd H l (.tup ys))) ∨ (SqT K H p ys ∧ Q (.ref p) H))
theorem cr_tuple : CallR X (.type "tuple") (rTupOf X.K) := call_tuple_of
variable {K : PySem.W.Frag} {H : Hp} {Q : VK} {p : Addr} {xs ys : List V} {i : Int} {σ : L2.St} {te : TE} {n : Nat}
theorem w_intB {b : Bool} (q : Q (.int (if b then 1 else 0)) H) : rIntB [.bl b] H Q := .inr ⟨b, rfl, q⟩
variable {ta : TA} {tu : TS} {tt : TT} {D : Ends} {j : Nat} {g : TG} {vs : List Nat} {R : It → Hp → Prop} {a : Addr}
end
/-- by size, then rising -/
def faceLe (p q : List Int) : Bool := decide (p.length < q.length ∨ (p.length = q.length ∧ p ≤ q))
section
variable {K : PySem.W.Frag} {H H' : Hp} {Q : VK} {a b p : Addr} {xs ys : List V} {S : List Addr} {lo hi : Option Int} {f : Addr} {w : World}
/-- at l a list of the tuples fs -/
def LT (K : PySem.W.Frag) (H : Hp) (l : Addr) (fs : List (List Int)) : Prop := ∃ bs : List (Addr × List Int), H l = some (.lst (bs.map fun b => .ref b.1)) ∧ (∀ b ∈ bs, SqT K H b.1 (b.2.map V.int)) ∧ bs.map (·.2) = fs
theorem Ch.sqts {bs : List (Addr × List Int)} (c : Ch S H H') (h : ∀ b ∈ bs, SqT K H b.1 (b.2.map V.int)) : ∀ b ∈ bs, SqT K H' b.1 (b.2.map V.int) := fun b hb => c.sqt (h b hb)
theorem LT.keep {fs : List (List Int)} (h : LT K H a fs) (c : Ch [] H H') : LT K H' a fs := let ⟨bs, h1, h2, h3⟩ := h; ⟨bs, c.lst h1, c.sqts h2, h3⟩
theorem dp_tup {t : Addr} {ns : List Int} (h : SqT K H t (ns.map V.int)) : Dp K H (.ref t) (.tuple (ns.map .int)) := by
  have allInts : ∀ ns : List Int, DpAll K H (ns.map V.int) (ns.map PyData.int) := fun ns => by
    induction ns with
    | nil => exact .nil
    | cons n ns ih => exact .cons (.int n) ih
  exact .tup h (allInts ns)
def encT (f : List Int) : PyData := .tuple (f.map .int)
theorem dp_refs : ∀ {bs : List (Addr × List Int)}, (∀ b ∈ bs, SqT K H b.1 (b.2.map V.int)) → DpAll K H (bs.map fun b => V.ref b.1) ((bs.map (·.2)).map encT)
  | [], _ => .nil
  | b :: bs, h => .cons (dp_tup (h b List.mem_cons_self)) (dp_refs fun x hx => h x (List.mem_cons_of_mem _ hx))
theorem LT.dp {fs : List (List Int)} (h : LT K H a fs) : Dp K H (.ref a) (.list (fs.map encT)) := by
  obtain ⟨bs, h1, h2, rfl⟩ := h
  exact .lst (SqL.of h1) (dp_refs h2)
theorem depthAll_le {m : Nat} : ∀ {xs : List PyData}, (∀ x ∈ xs, x.depth ≤ m) → PyData.depthAll xs ≤ m
  | [], _ => by simp [PyData.depthAll]
  | x :: xs, h => by
    have h1 := h x List.mem_cons_self
    have h2 := depthAll_le (xs := xs) fun y hy => h y (List.mem_cons_of_mem _ hy)
    simp only [PyData.depthAll]
    omega
end
section
variable {X : Cx} {K : PySem.W.Frag} {H : Hp} {Q : VK} {a : Addr}
def rSortD (K : PySem.W.Frag) : List V → Hp → VK → Prop := fun vs H Q => ∃ (a : Addr) (bs : List (V × PyData)), vs = [.ref a] ∧ SqL K H a (bs.map (·.1)) ∧ (∀ b ∈ bs, Dp K H b.1 b.2) ∧ PySem.W.AllAlike (bs.map (·.2)) ∧ PySem.W.Sortable (bs.map (·.2)) ∧
  bs.length ≤ 1000000 ∧ (∀ b ∈ bs, b.2.depth ≤ 40) ∧ New H (.lst ((bs.mergeSort (PySem.W.dataLe false Prod.snd)).map (·.1))) Q
theorem each_vals : ∀ {bs : List (V × PyData)} {its : List Value}, Vals (bs.map (·.1)) its → PySem.W.EachIs (fun v (b : V × PyData) => RelV b.1 v) its bs
  | [], _, r => by
    cases r
    exact .nil
  | b :: bs, _, r => by
    cases r with
    | cons r1 r2 => exact .cons r1 (each_vals r2)
theorem vals_each : ∀ {bs : List (V × PyData)} {its : List Value}, PySem.W.EachIs (fun v (b : V × PyData) => RelV b.1 v) its bs → Vals (bs.map (·.1)) its
  | _, _, .nil => .nil
  | _, _, .cons r1 r2 => .cons r1 (vals_each r2)
theorem each_reads {pins : List (Addr × Obj)} {σ : L2.St} {H : Hp} {s : Shared} (I : Inv X pins σ H s) : ∀ {bs : List (V × PyData)} {its : List Value}, (∀ b ∈ bs, Dp X.K H b.1 b.2) → PySem.W.EachIs (fun v (b : V × PyData) => RelV b.1 v) its bs →
    PySem.W.EachIs (fun v (b : V × PyData) => ∃ as, Reads s.heap v b.2 as) its bs
  | _, _, _, .nil => .nil
  | b :: _, _, h, .cons r1 r2 => .cons (Dp.reads I b.2 _ _ (h b List.mem_cons_self) r1) (each_reads I (fun x hx => h x (List.mem_cons_of_mem _ hx)) r2)
theorem cr_sortD (hu : X.A.units + 64 < cLine) : CallR X (.builtin "sorted") (rSortD X.K) := by
  intro pins s σ H vs us Q I r h
  obtain ⟨a, bs, rfl, hq, hd, hal, hso, hz, hdp, q⟩ := h
  rw [Vals.ref1 r]
  obtain ⟨its, rv, hl, _⟩ := I.list hq
  have e := each_vals rv
  refine PySem.W.sorted_data (enc := Prod.snd) hl.isList e (each_reads I hd e) hal hso (by rw [sizeLine_eq]; omega) (fun b hb => by have := hdp b hb; omega) fun out lo eo => ?_
  have hf : H (s.heap.objs.size + 1) = none := I.hok.fresh (Nat.le_succ _)
  refine ⟨.ref (s.heap.objs.size + 1), _, I.laid (t' := s.toks) (fun b o eb => sortedAll_old eb) (Nat.le_succ _) ?_, rfl, q _ hf⟩
  obtain ⟨c, hc⟩ := sortedAll_at s.heap its out.toArray
  exact ⟨by rw [List.length_map, List.length_mergeSort, sizeLine_eq]; omega, out, c, vals_each eo, hc⟩
end
def tLe (p q : List Int) : Bool := decide (p ≤ q)
theorem units65 {k : Nat} {A : PySem.Around} (r : Room k A) : A.units + 65 < PySem.cLine := by have := r.un; omega
section
variable {K : PySem.W.Frag} {H H' : Hp} {Q : VK} {a b l p t : Addr} {xs ys : List V} {S : List Addr} {ns ms : List Int} {c i : Int} {w : World} {P : Program} {σ : L2.St} {te : TE}
theorem inV_int (c : Int) : ∀ ns : List Int, inV (.int c) (ns.map V.int) = decide (c ∈ ns)
  | [] => by simp [inV]
  | n :: ns => by
    have e : eqV (.int n) (.int c) = decide (n = c) := by rw [Bool.eq_iff_iff]; simp [eqV]
    have ih := inV_int c ns
    unfold inV at ih ⊢
    rw [List.map_cons, List.any_cons, ih, e]
    by_cases h : n = c
    · subst h
      simp
    · have h2 : ¬ c = n := fun z => h z.symm
      simp [h, h2]
theorem flat_ints (ns : List Int) : (ns.map V.int).all flatV = true := by
  rw [List.all_map, List.all_eq_true]
  intro _ _
  rfl
theorem dp_intsL (K : PySem.W.Frag) (H : Hp) : ∀ ns : List Int, DpAll K H (ns.map V.int) (ns.map PyData.int)
  | [] => .nil
  | n :: ns => .cons (.int n) (dp_intsL K H ns)
theorem dp_lst (h : SqL K H l (ns.map V.int)) : Dp K H (.ref l) (.list (ns.map PyData.int)) := .lst h (dp_intsL K H ns)
def Shp (K : PySem.W.Frag) (H : Hp) (t : Addr) (ps : List (List Int)) : Prop := ∃ bs : List (Addr × List Int), SqT K H t (bs.map fun b => .ref b.1) ∧ (∀ b ∈ bs, SqT K H b.1 (b.2.map V.int)) ∧ bs.map (·.2) = ps
theorem Shp.keep {ps : List (List Int)} (h : Shp K H t ps) (c : Ch S H H') : Shp K H' t ps := let ⟨bs, h1, h2, h3⟩ := h; ⟨bs, c.sqt h1, c.sqts h2, h3⟩
theorem LT.lst {fs : List (List Int)} (h : LT K H l fs) : ∃ xs, H l = some (.lst xs) := let ⟨_, e, _⟩ := h; ⟨_, e⟩
theorem LT.ne {fs : List (List Int)} (h : LT K H l fs) (n : H p = none) : l ≠ p := let ⟨_, e, _⟩ := h; ne_new e n
theorem Shp.len {ps : List (List Int)} (h : Shp K H t ps) : ∃ xs, SqT K H t xs ∧ xs.length = ps.length := let ⟨bs, h1, _, h3⟩ := h; ⟨_, h1, by rw [← h3, List.length_map, List.length_map]⟩
end
def leI (a b : Int) : Bool := decide (a ≤ b)
section
variable {X : Cx}
theorem ints_each : ∀ {ns : List Int} {its : List Value}, PySem.W.EachIs (fun v (b : Int) => RelV (.int b) v) its ns → Vals (ns.map V.int) its
  | _, _, .nil => .nil
  | _, _, .cons r1 r2 => .cons r1 (ints_each r2)
theorem ints_reads {h : Heap} : ∀ {ns : List Int} {its : List Value}, PySem.W.EachIs (fun v (b : Int) => RelV (.int b) v) its ns → PySem.W.EachIs (fun v (b : Int) => ∃ as, Reads h v (.int b) as) its ns
  | _, _, .nil => .nil
  | _, _, .cons ⟨t, e⟩ r2 => .cons ⟨[], e ▸ Reads.int _ _⟩ (ints_reads r2)
variable {K : PySem.W.Frag} {H : Hp} {Q : VK} {a : Addr} {ns : List Int}
end
abbrev Sg := L2.St
def Sub (G H : Hp) : Prop := ∀ b o, G b = some o → H b = some o
def hide (H : Hp) (L : Addr) : Hp := fun b => if b = L then none else H b
section
variable {G G' G'' H H' H'' : Hp} {L L' b : Addr} {o u : HO}
theorem Sub.refl : Sub G G := fun _ _ h => h
theorem Sub.trans (a : Sub G G') (b : Sub G' G'') : Sub G G'' := fun x o h => b x o (a x o h)
theorem Sub.ne (a : Sub G H) (h : G b ≠ none) : H b ≠ none := by
  cases e : G b with
  | none => exact absurd e h
  | some o => rw [a b o e]; intro z; cases z
theorem Sub.no (a : Sub G H) (h : H b = none) : G b = none := by
  cases e : G b with
  | none => rfl
  | some o => rw [a b o e] at h; cases h
theorem hide_same : hide H L L = none := if_pos rfl
theorem hide_ne (h : b ≠ L) : hide H L b = H b := if_neg h
theorem hide_sub : Sub (hide H L) H := fun b o h => by
  by_cases e : b = L
  · subst e; rw [hide_same] at h; cases h
  · rwa [hide_ne e] at h
theorem hide_some (h : hide H L b = some o) : b ≠ L ∧ H b = some o := by
  by_cases e : b = L
  · subst e; rw [hide_same] at h; cases h
  · exact ⟨e, by rwa [hide_ne e] at h⟩
theorem Sub.hide (a : Sub H H') : Sub (hide H L) (hide H' L) := fun b o h => by
  obtain ⟨n, e⟩ := hide_some h
  rw [hide_ne n]; exact a b o e
theorem sub_hide (a : Sub G H) (h : G L = none) : Sub G (Ws.hide H L) := fun b o e => by
  have n : b ≠ L := fun z => by subst z; rw [h] at e; cases e
  rw [hide_ne n]; exact a b o e
theorem hide_upd : hide (upd H L o) L = hide H L := by
  funext b
  by_cases e : b = L
  · subst e; rw [hide_same, hide_same]
  · rw [hide_ne e, hide_ne e, upd_ne e]
theorem hide_comm : hide (hide H L) L' = hide (hide H L') L := by
  funext b
  unfold hide
  by_cases e : b = L <;> by_cases e' : b = L' <;> simp [e, e']
theorem hide_none (h : H L = none) : hide H L = H := by
  funext b
  by_cases e : b = L
  · subst e; rw [hide_same, h]
  · rw [hide_ne e]
theorem sub_upd (h : H L = none) : Sub H (upd H L o) := fun b u e => by
  rw [upd_ne (ne_of_none e h)]; exact e
theorem upd_sub (a : Sub G H) (h : H L = some o) : Sub (upd G L o) H := fun b u e => by
  by_cases n : b = L
  · subst n; rw [upd_same] at e; cases e; exact h
  · rw [upd_ne n] at e; exact a b u e
theorem upd_upd_sub (a : Sub G H) : Sub (upd G L o) (upd H L o) := fun b u e => by
  by_cases n : b = L
  · subst n; rw [upd_same] at e ⊢; exact e
  · rw [upd_ne n] at e ⊢; exact a b u e
theorem upd_some (h : upd G L o b ≠ none) : b = L ∨ G b ≠ none := by
  by_cases n : b = L
  · exact .inl n
  · rw [upd_ne n] at h; exact .inr h
end
/-- all tuples are frozen -/
def Tps (G H : Hp) : Prop := ∀ b xs, H b = some (.tup xs) → G b = some (.tup xs)
/-- a pure step: only new objects, of which some are frozen -/
structure Stp (G H G' H' : Hp) : Prop where
  g : Sub G G'
  h : Sub H H'
  i : Sub G' H'
  n : ∀ b, H b ≠ none → G' b ≠ none → G b ≠ none
  t : Tps G H → Tps G' H'
theorem Stp.refl {G H : Hp} (i : Sub G H) : Stp G H G H := ⟨.refl, .refl, i, fun _ _ h => h, id⟩
theorem Stp.trans {G H G1 H1 G2 H2 : Hp} (a : Stp G H G1 H1) (b : Stp G1 H1 G2 H2) : Stp G H G2 H2 :=
  ⟨a.g.trans b.g, a.h.trans b.h, b.i, fun x h1 h2 => a.n x h1 (b.n x (a.h.ne h1) h2), fun z => b.t (a.t z)⟩
/-- a new object is laid and frozen -/
theorem Stp.new {G H : Hp} {p : Addr} {o : HO} (i : Sub G H) (h : H p = none) : Stp G H (upd G p o) (upd H p o) :=
  ⟨sub_upd (i.no h), sub_upd h, upd_upd_sub i, fun b h1 h2 => (upd_some h2).elim (fun e => absurd h (e ▸ h1)) id, fun z b xs hb => by
    by_cases e : b = p
    · subst e; rw [upd_same] at hb ⊢; exact hb
    · rw [upd_ne e] at hb ⊢; exact z b xs hb⟩
/-- a new object is laid -/
theorem Tps.put {G H : Hp} {p : Addr} {o : HO} (ho : ∀ xs, o ≠ .tup xs) (z : Tps G H) : Tps G (upd H p o) := fun b xs hb => by
  by_cases e : b = p
  · subst e; rw [upd_same] at hb; cases hb; exact absurd rfl (ho xs)
  · rw [upd_ne e] at hb; exact z b xs hb
theorem Stp.own {G H : Hp} {p : Addr} {o : HO} (i : Sub G H) (h : H p = none) (ho : ∀ xs, o ≠ .tup xs := by intro _ h; cases h) : Stp G H G (upd H p o) :=
  ⟨.refl, sub_upd h, i.trans (sub_upd h), fun _ _ h => h, fun z => z.put ho⟩
/-- the frame of a def: what was frozen, what stood as it began, what it may change -/
structure Frm where
  G0 : Hp
  H0 : Hp
  ws : List Addr
  X : Hp := fun _ => none
  Y : Hp := fun _ => none
/-- one object more is to stay as it is -/
def Frm.lock (F : Frm) (D : Addr) (o : HO) : Frm := { F with X := upd F.X D o }
/-- a dict that is walked -/
def Frm.lockY (F : Frm) (D : Addr) (o : HO) : Frm := { F with Y := upd F.Y D o }
structure IV (F : Frm) (G H : Hp) : Prop where
  gh : Sub G H
  g0 : Sub F.G0 G
  new : ∀ b, F.H0 b ≠ none → G b ≠ none → F.G0 b ≠ none
  fr : ∀ b o, b ∉ F.ws → F.H0 b = some o → H b = some o
  al : ∀ b, F.H0 b ≠ none → H b ≠ none
  xs : Sub F.X H
  xg : ∀ b, F.X b ≠ none → G b = none
  ys : Sub F.Y H
  yg : ∀ b, F.Y b ≠ none → G b = none
  tp : Tps G H
theorem IV.step {F : Frm} {G H G' H' : Hp} (i : IV F G H) (s : Stp G H G' H') : IV F G' H' :=
  ⟨s.i, i.g0.trans s.g, fun b h1 h2 => i.new b h1 (s.n b (i.al b h1) h2), fun b o h1 h2 => s.h b o (i.fr b o h1 h2), fun b h => s.h.ne (i.al b h), i.xs.trans s.h, fun b h => by
    cases z : G' b with
    | none => rfl
    | some o => exact absurd (i.xg b h) (s.n b (i.xs.ne h) (by rw [z]; intro z; cases z)), i.ys.trans s.h, fun b h => by
    cases z : G' b with
    | none => rfl
    | some o => exact absurd (i.yg b h) (s.n b (i.ys.ne h) (by rw [z]; intro z; cases z)), s.t i.tp⟩
theorem IV.lock {F : Frm} {G H : Hp} {D : Addr} {o : HO} (i : IV F G H) (h : H D = some o) (g : G D = none) : IV (F.lock D o) G H :=
  ⟨i.gh, i.g0, i.new, i.fr, i.al, upd_sub i.xs h, fun b hb => (upd_some hb).elim (fun e => e ▸ g) (i.xg b), i.ys, i.yg, i.tp⟩
theorem IV.unlock {F : Frm} {G H : Hp} {D : Addr} {o : HO} (i : IV (F.lock D o) G H) (h : F.X D = none) : IV F G H ∧ H D = some o ∧ G D = none :=
  ⟨⟨i.gh, i.g0, i.new, i.fr, i.al, (sub_upd h).trans i.xs, fun b hb => i.xg b ((sub_upd h).ne hb), i.ys, i.yg, i.tp⟩, i.xs D o upd_same, i.xg D (by show upd F.X D o D ≠ none; rw [upd_same]; intro z; cases z)⟩
def ownN : Frm → Addr → Prop := fun F L => F.H0 L = none ∧ F.X L = none ∧ F.Y L = none
def ownI (k : Nat) : Frm → Addr → Prop := fun F L => F.ws[k]? = some L ∧ F.X L = none ∧ F.Y L = none
inductive A2 {α β : Type} (R : α → β → Prop) : List α → List β → Prop
  | nil : A2 R [] []
  | cons {a b as bs} (h : R a b) (t : A2 R as bs) : A2 R (a :: as) (b :: bs)
section
variable {α β γ : Type} {R S : α → β → Prop} {as as' : List α} {bs bs' : List β}
theorem A2.mono (h : A2 R as bs) (k : ∀ a b, R a b → S a b) : A2 S as bs := by
  induction h with
  | nil => exact .nil
  | cons h _ ih => exact .cons (k _ _ h) ih
theorem A2.length (h : A2 R as bs) : as.length = bs.length := by
  induction h with
  | nil => rfl
  | cons _ _ ih => simp [ih]
theorem A2.app (h : A2 R as bs) (h' : A2 R as' bs') : A2 R (as ++ as') (bs ++ bs') := by
  induction h with
  | nil => exact h'
  | cons h _ ih => exact .cons h ih
theorem A2.get {i : Nat} {b : β} (h : A2 R as bs) (e : bs[i]? = some b) : ∃ a, as[i]? = some a ∧ R a b := by
  induction h generalizing i with
  | nil => simp at e
  | cons h _ ih =>
    cases i with
    | zero => simp at e; subst e; exact ⟨_, rfl, h⟩
    | succ i => simpa using ih (by simpa using e)
theorem A2.take {n : Nat} (h : A2 R as bs) : A2 R (as.take n) (bs.take n) := by
  induction h generalizing n with
  | nil => simp; exact .nil
  | cons h _ ih =>
    cases n with
    | zero => exact .nil
    | succ n => exact .cons h ih
theorem A2.drop {n : Nat} (h : A2 R as bs) : A2 R (as.drop n) (bs.drop n) := by
  induction h generalizing n with
  | nil => simp; exact .nil
  | cons h t ih =>
    cases n with
    | zero => exact .cons h t
    | succ n => exact ih
theorem A2.set {n : Nat} {a : α} {b : β} (h : A2 R as bs) (r : R a b) : A2 R (as.set n a) (bs.set n b) := by
  induction h generalizing n with
  | nil => exact .nil
  | cons h t ih =>
    cases n with
    | zero => exact .cons r t
    | succ n => exact .cons h ih
theorem A2.rev (h : A2 R as bs) : A2 R as.reverse bs.reverse := by
  induction h with
  | nil => exact .nil
  | cons h _ ih => rw [List.reverse_cons, List.reverse_cons]; exact ih.app (.cons h .nil)
theorem A2.ofMap {f : β → α} (h : ∀ b ∈ bs, R (f b) b) : A2 R (bs.map f) bs := by
  induction bs with
  | nil => exact .nil
  | cons b bs ih => exact .cons (h b List.mem_cons_self) (ih fun x hx => h x (List.mem_cons_of_mem _ hx))
theorem A2.eqMap {f : β → α} (h : A2 (fun a b => a = f b) as bs) : as = bs.map f := by
  induction h with
  | nil => rfl
  | cons h _ ih => rw [h, ih]; rfl
theorem A2.eraseIdx {n : Nat} (h : A2 R as bs) : A2 R (as.eraseIdx n) (bs.eraseIdx n) := by
  induction h generalizing n with
  | nil => exact .nil
  | cons h t ih =>
    cases n with
    | zero => exact t
    | succ n => exact .cons h ih
end
/-- frozen data: ν is what it stands for on the machine's side -/
structure GR (ν α : Type) where
  rel : PySem.W.Frag → Hp → ν → α → Prop
  mono : ∀ {K G G' v a}, Sub G G' → rel K G v a → rel K G' v a
abbrev Rep := GR V
/-- what stands at an address -/
abbrev ORep := GR HO
def rI : Rep Int := ⟨fun _ _ v i => v = .int i, fun _ h => h⟩
def rB : Rep Bool := ⟨fun _ _ v b => v = .bl b, fun _ h => h⟩
def rS : Rep Str := ⟨fun _ _ v z => v = .str z, fun _ h => h⟩
def rN : Rep Unit := ⟨fun _ _ v _ => v = .non, fun _ h => h⟩
/-- None or a thing -/
def rO {α : Type} (r : Rep α) : Rep (Option α) := ⟨fun K G v a => match a with | none => v = .non | some x => v ≠ .non ∧ r.rel K G v x, fun {K G G' v a} s h => by
  cases a with
  | none => exact h
  | some x => exact ⟨h.1, r.mono s h.2⟩⟩
/-- a frozen object -/
def rz {α : Type} (q : ORep α) : Rep α := ⟨fun K G v a => ∃ L ho, v = .ref L ∧ G L = some ho ∧ q.rel K G ho a, fun s ⟨L, ho, h1, h2, h3⟩ => ⟨L, ho, h1, s _ _ h2, q.mono s h3⟩⟩
def oL {α : Type} (r : Rep α) : ORep (List α) := ⟨fun K G ho xs => ∃ vs, ho = .lst vs ∧ A2 (r.rel K G) vs xs, fun s ⟨vs, h1, h2⟩ => ⟨vs, h1, h2.mono fun _ _ => r.mono s⟩⟩
def oT {α : Type} (r : Rep α) : ORep (List α) := ⟨fun K G ho xs => ∃ vs, ho = .tup vs ∧ A2 (r.rel K G) vs xs, fun s ⟨vs, h1, h2⟩ => ⟨vs, h1, h2.mono fun _ _ => r.mono s⟩⟩
abbrev rL {α : Type} (r : Rep α) : Rep (List α) := rz (oL r)
abbrev rT {α : Type} (r : Rep α) : Rep (List α) := rz (oT r)
/-- a tuple, a list of two things -/
def oT2 {α β : Type} (r : Rep α) (s : Rep β) : ORep (α × β) := ⟨fun K G ho p => ∃ v w, ho = .tup [v, w] ∧ r.rel K G v p.1 ∧ s.rel K G w p.2, fun u ⟨v, w, h1, h2, h3⟩ => ⟨v, w, h1, r.mono u h2, s.mono u h3⟩⟩
def oL3 {α β γ : Type} (r : Rep α) (s : Rep β) (t : Rep γ) : ORep (α × β × γ) := ⟨fun K G ho p => ∃ v w x, ho = .lst [v, w, x] ∧ r.rel K G v p.1 ∧ s.rel K G w p.2.1 ∧ t.rel K G x p.2.2, fun u ⟨v, w, x, h1, h2, h3, h4⟩ => ⟨v, w, x, h1, r.mono u h2, s.mono u h3, t.mono u h4⟩⟩
abbrev rT2 {α β : Type} (r : Rep α) (s : Rep β) : Rep (α × β) := rz (oT2 r s)
/-- the script: a list that is read and never written -/
def rScr : Rep (List Int) := ⟨fun K G v xs => ∃ a, v = .ref a ∧ Fz K G a (xs.map V.int), fun {K G G' v a} s ⟨p, h1, h2⟩ => ⟨p, h1, by
  rcases h2 with ⟨o, h⟩ | h
  · exact .inl ⟨o, s _ _ h⟩
  · exact .inr h⟩⟩
def bR : GR Bool Bool := ⟨fun _ _ b a => b = a, fun _ h => h⟩
def ioR : GR (Option Int) (Option Int) := ⟨fun _ _ b a => b = a, fun _ h => h⟩
structure Xc where
  name : Str
  fld : Option (Str × Int) := none
inductive Rs (ε α : Type) where
  | ok (a : α) (e : ε) | ex (c : Xc) (e : ε) | bad
inductive So (ε ρ : Type) where
  | nx (e : ε) | rt (a : ρ) (e : ε) | bk (e : ε) | ct (e : ε) | ex (c : Xc) (e : ε) | bad
def Rs.bind {ε α β : Type} (x : Rs ε α) (f : α → ε → Rs ε β) : Rs ε β := match x with
  | .ok a e => f a e | .ex c e => .ex c e | .bad => .bad
def Rs.of {ε α : Type} (o : Option α) (e : ε) : Rs ε α := match o with
  | some a => .ok a e | none => .bad
def Rs.so {ε α ρ : Type} (x : Rs ε α) (f : α → ε → So ε ρ) : So ε ρ := match x with
  | .ok a e => f a e | .ex c e => .ex c e | .bad => .bad
section
variable {ε α β ρ : Type} {a : α} {e : ε} {c : Xc} {f : α → ε → Rs ε β} {g : α → ε → So ε ρ}
@[simp] theorem Rs.bind_ok : (Rs.ok a e).bind f = f a e := rfl
@[simp] theorem Rs.bind_ex : (Rs.ex c e : Rs ε α).bind f = .ex c e := rfl
@[simp] theorem Rs.bind_bad : (Rs.bad : Rs ε α).bind f = .bad := rfl
@[simp] theorem Rs.so_ok : (Rs.ok a e).so g = g a e := rfl
@[simp] theorem Rs.so_ex : (Rs.ex c e : Rs ε α).so g = .ex c e := rfl
@[simp] theorem Rs.so_bad : (Rs.bad : Rs ε α).so g = .bad := rfl
@[simp] theorem Rs.of_some : Rs.of (some a) e = .ok a e := rfl
@[simp] theorem Rs.of_none : Rs.of (none : Option α) e = .bad := rfl
end
/-- what a def runs in: its written part, what is wanted of what is raised, the classes -/
structure Mx where
  K : PySem.W.Frag
  E : XK
  cx : Str → Addr
def xr (M : Mx) (G : Hp) (c : Xc) (cls : Value) (d : Option Addr) : Prop := cls = .ref (M.cx c.name) ∧ match c.fld with
  | none => d = none
  | some (f, i) => ∃ dd, d = some dd ∧ G dd = some (.xd [(f, .int i)])
/-- the names of a def -/
structure ERep (ε : Type) where
  rel : PySem.W.Frag → Frm → Hp → Hp → Sg → ε → Prop
  mono : ∀ {K F G G' H H' σ e}, Sub G G' → Sub H H' → (∀ b, H b ≠ none → G' b ≠ none → G b ≠ none) → rel K F G H σ e → rel K F G' H' σ e
  lock : ∀ {K F G H σ e D o}, rel K F G (hide H D) σ e → rel K (F.lock D o) G H σ e
  unlock : ∀ {K F G H σ e D o}, rel K (F.lock D o) G H σ e → rel K F G (hide H D) σ e
/-- how a result is held: frozen, or a new object of one's own; the last heap: without it -/
structure RS (ν α : Type) where
  rel : PySem.W.Frag → Frm → Hp → Hp → ν → α → Hp → Prop
def fz {ν α : Type} (r : GR ν α) : RS ν α := ⟨fun K _ G H v a H1 => r.rel K G v a ∧ H1 = H⟩
def fs {α : Type} (q : ORep α) : RS V α := ⟨fun K F G H v a H1 => ∃ L ho, v = .ref L ∧ H L = some ho ∧ G L = none ∧ ownN F L ∧ q.rel K G ho a ∧ H1 = hide H L⟩
section
variable {ν ν' α β γ ε ρ : Type}
def Post (M : Mx) (R : ERep ε) (F : Frm) (G : Hp) (σ : Sg) (rs : RS ν α) (Q : ν → Hp → Prop) : Rs ε α → Prop
  | .ok a e' => ∀ v G' H' H1, IV F G' H' → Sub G G' → rs.rel M.K F G' H' v a H1 → R.rel M.K F G' H1 σ e' → Q v H'
  | .ex c e' => ∀ cls d G' H', IV F G' H' → Sub G G' → R.rel M.K F G' H' σ e' → xr M G' c cls d → M.E cls d H'
  | .bad => False
/-- the reading t computes m -/
def EX (M : Mx) (R : ERep ε) (t : Sg → Hp → (ν → Hp → Prop) → Prop) (rs : RS ν α) (m : ε → Rs ε α) : Prop :=
  ∀ F G H σ e, IV F G H → R.rel M.K F G H σ e → ∀ Q, Post M R F G σ rs Q (m e) → t σ H Q
variable {M : Mx} {R : ERep ε} {F : Frm} {G G1 H : Hp} {σ : Sg} {Q : ν → Hp → Prop} {Q' : ν' → Hp → Prop}
theorem Post.up {rs : RS ν α} {x : Rs ε α} (h : Post M R F G σ rs Q x) (s : Sub G G1) : Post M R F G1 σ rs Q x := by
  cases x with
  | ok a e => exact fun v G' H' H1 i z => h v G' H' H1 i (s.trans z)
  | ex c e => exact fun cls d G' H' i z => h cls d G' H' i (s.trans z)
  | bad => exact h
theorem Post.bind {rr : RS ν α} {rs : RS ν' β} {x : Rs ε α} {f : α → ε → Rs ε β} (h : Post M R F G σ rs Q' (x.bind f)) (hz : ∀ K F G H v a H1, rr.rel K F G H v a H1 → H1 = H)
    (k : ∀ v a e1 G1 H1, IV F G1 H1 → Sub G G1 → R.rel M.K F G1 H1 σ e1 → rr.rel M.K F G1 H1 v a H1 → Post M R F G1 σ rs Q' (f a e1) → Q v H1) : Post M R F G σ rr Q x := by
  cases x with
  | ok a e =>
    rintro v G' H' H1 i s hr hR
    obtain rfl := hz _ _ _ _ _ _ _ hr
    exact k v a e G' _ i s hR hr (Post.up h s)
  | ex c e => exact h
  | bad => exact h
/-- what a rule by values may ask of a value, as the heap stands -/
abbrev IR (ν α : Type) := PySem.W.Frag → Hp → Hp → ν → α → Prop
def ir {ν α : Type} (r : GR ν α) : IR ν α := fun K G _ v a => r.rel K G v a
/-- an object that is read as it stands -/
def rd {α : Type} (q : ORep α) : IR V α := fun K G H v a => ∃ L ho, v = .ref L ∧ H L = some ho ∧ q.rel K G ho a
def is {ν α : Type} (i : IR ν α) : RS ν α := ⟨fun K _ G H v a H1 => i K G H v a ∧ H1 = H⟩
/-- frozen, it may be read -/
def Cv {ν α : Type} (r : GR ν α) (i : IR ν α) : Prop := ∀ K G H v a, Sub G H → r.rel K G v a → i K G H v a
theorem Cv.id {ν α : Type} {r : GR ν α} : Cv r (ir r) := fun _ _ _ _ _ _ h => h
theorem Cv.ob {α : Type} {q : ORep α} : Cv (rz q) (rd q) := fun _ _ _ _ _ s ⟨L, ho, h1, h2, h3⟩ => ⟨L, ho, h1, s _ _ h2, h3⟩
/-- a rule by values: what it gives is frozen -/
def VR (K : PySem.W.Frag) (T : ν → Hp → (ν' → Hp → Prop) → Prop) (r : IR ν α) (r' : GR ν' β) (g : α → Option β) : Prop :=
  ∀ G H v a b Q, Sub G H → r K G H v a → g a = some b → (∀ v' G' H', Stp G H G' H' → r'.rel K G' v' b → Q v' H') → T v H Q
def VR2 {ν1 ν2 : Type} (K : PySem.W.Frag) (T : ν1 → ν2 → Hp → (ν' → Hp → Prop) → Prop) (r : IR ν1 α) (s : IR ν2 β) (r' : GR ν' γ) (g : α → β → Option γ) : Prop :=
  ∀ G H v w a b c Q, Sub G H → r K G H v a → s K G H w b → g a b = some c → (∀ v' G' H', Stp G H G' H' → r'.rel K G' v' c → Q v' H') → T v w H Q
/-- a rule by values: what it gives is new -/
def VF (K : PySem.W.Frag) (T : ν → Hp → (V → Hp → Prop) → Prop) (r : IR ν α) (q : ORep β) (g : α → Option β) : Prop :=
  ∀ G H v a b Q, Sub G H → r K G H v a → g a = some b → (∀ L ho G' H', Stp G H G' H' → H L = none → G' L = none → H' L = some ho → q.rel K G' ho b → Q (.ref L) H') → T v H Q
def VF2 {ν1 ν2 : Type} (K : PySem.W.Frag) (T : ν1 → ν2 → Hp → (V → Hp → Prop) → Prop) (r : IR ν1 α) (s : IR ν2 β) (q : ORep γ) (g : α → β → Option γ) : Prop :=
  ∀ G H v w a b c Q, Sub G H → r K G H v a → s K G H w b → g a b = some c → (∀ L ho G' H', Stp G H G' H' → H L = none → G' L = none → H' L = some ho → q.rel K G' ho c → Q (.ref L) H') → T v w H Q
/-- the end of a rule by values -/
theorem Post.fin {r' : GR ν' β} {b : β} {e : ε} {Q : ν' → Hp → Prop} (i : IV F G H) (hR : R.rel M.K F G H σ e) (h : Post M R F G σ (fz r') Q (.ok b e)) : ∀ v' G' H', Stp G H G' H' → r'.rel M.K G' v' b → Q v' H' :=
  fun v' G' H' st hr => h v' G' H' H' (i.step st) st.g ⟨hr, rfl⟩ (R.mono st.g st.h st.n hR)
theorem Post.finF {q : ORep β} {b : β} {e : ε} {Q : V → Hp → Prop} (i : IV F G H) (hR : R.rel M.K F G H σ e) (h : Post M R F G σ (fs q) Q (.ok b e)) :
    ∀ L ho G' H', Stp G H G' H' → H L = none → G' L = none → H' L = some ho → q.rel M.K G' ho b → Q (.ref L) H' := fun L ho G' H' st hl gl hl' hq => by
  refine h (.ref L) G' H' (hide H' L) (i.step st) st.g ⟨L, ho, rfl, hl', gl, ⟨?_, i.xs.no hl, i.ys.no hl⟩, hq, rfl⟩ (R.mono st.g (sub_hide st.h hl) st.n hR)
  cases z : F.H0 L with
  | none => rfl
  | some o => exact absurd hl (i.al L (by rw [z]; intro z; cases z))
def mUn (g : α → Option β) (m : ε → Rs ε α) : ε → Rs ε β := fun e => (m e).bind fun a e1 => .of (g a) e1
def mOp (g : α → β → Option γ) (m : ε → Rs ε α) (n : ε → Rs ε β) : ε → Rs ε γ := fun e => (m e).bind fun a e1 => (n e1).bind fun b e2 => .of (g a b) e2
theorem of_some {o : Option β} {e : ε} {rs : RS ν β} (h : Post M R F G σ rs Q (.of o e)) : ∃ b, o = some b ∧ Post M R F G σ rs Q (.ok b e) := by
  cases o with
  | none => exact h.elim
  | some b => exact ⟨b, rfl, h⟩
theorem x_un {t : Sg → Hp → (ν → Hp → Prop) → Prop} {T : ν → Hp → (ν' → Hp → Prop) → Prop} {r : IR ν α} {r' : GR ν' β} {g : α → Option β} {m : ε → Rs ε α} (vr : VR M.K T r r' g) (h : EX M R t (is r) m) :
    EX M R (fun σ H Q => t σ H fun x H1 => T x H1 Q) (fz r') (mUn g m) := fun F G H σ e i hR Q p =>
  h F G H σ e i hR _ (p.bind (fun _ _ _ _ _ _ _ z => z.2) fun v a e1 G1 H1 i1 s1 R1 r1 p1 => by
    obtain ⟨b, hb, p2⟩ := of_some p1
    exact vr G1 H1 v a b Q i1.gh r1.1 hb (p2.fin i1 R1))
theorem x_unF {t : Sg → Hp → (ν → Hp → Prop) → Prop} {T : ν → Hp → (V → Hp → Prop) → Prop} {r : IR ν α} {q : ORep β} {g : α → Option β} {m : ε → Rs ε α} (vr : VF M.K T r q g) (h : EX M R t (is r) m) :
    EX M R (fun σ H Q => t σ H fun x H1 => T x H1 Q) (fs q) (mUn g m) := fun F G H σ e i hR Q p =>
  h F G H σ e i hR _ (p.bind (fun _ _ _ _ _ _ _ z => z.2) fun v a e1 G1 H1 i1 s1 R1 r1 p1 => by
    obtain ⟨b, hb, p2⟩ := of_some p1
    exact vr G1 H1 v a b Q i1.gh r1.1 hb (p2.finF i1 R1))
theorem x_op {ν1 ν2 : Type} {t : Sg → Hp → (ν1 → Hp → Prop) → Prop} {u : Sg → Hp → (ν2 → Hp → Prop) → Prop} {T : ν1 → ν2 → Hp → (ν' → Hp → Prop) → Prop} {r : GR ν1 α} {i1' : IR ν1 α} {s : IR ν2 β} {r' : GR ν' γ} {g : α → β → Option γ} {m : ε → Rs ε α} {n : ε → Rs ε β}
    (vr : VR2 M.K T i1' s r' g) (cv : Cv r i1') (h : EX M R t (fz r) m) (k : EX M R u (is s) n) : EX M R (fun σ H Q => t σ H fun x H1 => u σ H1 fun y H2 => T x y H2 Q) (fz r') (mOp g m n) := fun F G H σ e i hR Q p =>
  h F G H σ e i hR _ (p.bind (fun _ _ _ _ _ _ _ z => z.2) fun v a e1 G1 H1 i1 s1 R1 r1 p1 => k F G1 H1 σ e1 i1 R1 _ (p1.bind (fun _ _ _ _ _ _ _ z => z.2) fun w b e2 G2 H2 i2 s2 R2 r2 p2 => by
    obtain ⟨c, hc, p3⟩ := of_some p2
    exact vr G2 H2 v w a b c Q i2.gh (cv _ _ _ _ _ i2.gh (r.mono s2 r1.1)) r2.1 hc (p3.fin i2 R2)))
theorem x_opF {ν1 ν2 : Type} {t : Sg → Hp → (ν1 → Hp → Prop) → Prop} {u : Sg → Hp → (ν2 → Hp → Prop) → Prop} {T : ν1 → ν2 → Hp → (V → Hp → Prop) → Prop} {r : GR ν1 α} {i1' : IR ν1 α} {s : IR ν2 β} {q : ORep γ} {g : α → β → Option γ} {m : ε → Rs ε α} {n : ε → Rs ε β}
    (vr : VF2 M.K T i1' s q g) (cv : Cv r i1') (h : EX M R t (fz r) m) (k : EX M R u (is s) n) : EX M R (fun σ H Q => t σ H fun x H1 => u σ H1 fun y H2 => T x y H2 Q) (fs q) (mOp g m n) := fun F G H σ e i hR Q p =>
  h F G H σ e i hR _ (p.bind (fun _ _ _ _ _ _ _ z => z.2) fun v a e1 G1 H1 i1 s1 R1 r1 p1 => k F G1 H1 σ e1 i1 R1 _ (p1.bind (fun _ _ _ _ _ _ _ z => z.2) fun w b e2 G2 H2 i2 s2 R2 r2 p2 => by
    obtain ⟨c, hc, p3⟩ := of_some p2
    exact vr G2 H2 v w a b c Q i2.gh (cv _ _ _ _ _ i2.gh (r.mono s2 r1.1)) r2.1 hc (p3.finF i2 R2)))
/-- what is frozen, read as it stands -/
theorem x_is {t : Sg → Hp → (ν → Hp → Prop) → Prop} {r : GR ν α} {i' : IR ν α} {m : ε → Rs ε α} (cv : Cv r i') (h : EX M R t (fz r) m) : EX M R t (is i') m := fun F G H σ e i hR Q p => by
  refine h F G H σ e i hR Q ?_
  revert p
  cases m e with
  | ok a e' => exact fun p v G' H' H1 i1 s1 z R1 => p v G' H' H1 i1 s1 ⟨cv _ _ _ _ _ i1.gh z.1, z.2⟩ R1
  | ex c e' => exact id
  | bad => exact id
/-- what is new, frozen -/
theorem x_fz {t : TE} {q : ORep α} {m : ε → Rs ε α} (h : EX M R t (fs q) m) : EX M R t (fz (rz q)) m := fun F G H σ e i hR Q p => by
  refine h F G H σ e i hR Q ?_
  revert p
  cases m e with
  | ok a e' =>
    rintro p v G' H' H1 i1 s1 ⟨L, ho, rfl, h1, h2, h3, h4, rfl⟩ R1
    have sg : Sub G' (upd G' L ho) := sub_upd h2
    refine p (.ref L) (upd G' L ho) H' H' ⟨upd_sub i1.gh h1, i1.g0.trans sg, fun b hb hn => ?_, i1.fr, i1.al, i1.xs, fun b hb => ?_, i1.ys, fun b hb => ?_, fun b xs hb => sg _ _ (i1.tp b xs hb)⟩ (s1.trans sg) ⟨⟨L, ho, rfl, upd_same, q.mono sg h4⟩, rfl⟩ (R.mono sg hide_sub (fun b hb hn => ?_) R1)
    · rcases upd_some hn with rfl | z
      · exact absurd h3.1 hb
      · exact i1.new b hb z
    · rw [upd_ne (show b ≠ L from fun z => hb (by rw [z]; exact h3.2.1))]
      exact i1.xg b hb
    · rw [upd_ne (show b ≠ L from fun z => hb (by rw [z]; exact h3.2.2))]
      exact i1.yg b hb
    · rcases upd_some hn with rfl | z
      · exact absurd hide_same hb
      · exact z
  | ex c e' => exact id
  | bad => exact id
def mC (a : α) : ε → Rs ε α := fun e => .ok a e
theorem x_c {v : V} {a : α} {r : Rep α} (h : ∀ G, r.rel M.K G v a) : EX M R (tC v) (fz r) (mC a) := fun F G H σ e i hR Q p => p v G H H i .refl ⟨h G, rfl⟩ hR
end
def eNil : ERep Unit := ⟨fun _ _ _ _ σ _ => σ = [], fun _ _ _ h => h, fun h => h, fun h => h⟩
/-- a name that holds frozen data -/
def eFr {α ε : Type} (r : Rep α) (R : ERep ε) : ERep (Option α × ε) :=
  ⟨fun K F G H σ e => ∃ o σ', σ = o :: σ' ∧ (∀ x, e.1 = some x → ∃ v, o = some v ∧ r.rel K G v x) ∧ R.rel K F G H σ' e.2, fun g h n ⟨o, σ', h1, h2, h3⟩ =>
    ⟨o, σ', h1, fun x hx => let ⟨v, a, b⟩ := h2 x hx; ⟨v, a, r.mono g b⟩, R.mono g h n h3⟩,
   fun ⟨o, σ', h1, h2, h3⟩ => ⟨o, σ', h1, h2, R.lock h3⟩, fun ⟨o, σ', h1, h2, h3⟩ => ⟨o, σ', h1, h2, R.unlock h3⟩⟩
/-- a name that holds an object of one's own -/
class OwnP (own : Frm → Addr → Prop) : Prop where
  lock : ∀ {F L D o}, own F L → L ≠ D → own (F.lock D o) L
  unlock : ∀ {F L D o}, own (F.lock D o) L → L ≠ D ∧ own F L
  lockY : ∀ {F L D o}, own F L → L ≠ D → own (F.lockY D o) L
  unlockY : ∀ {F L D o}, own (F.lockY D o) L → L ≠ D ∧ own F L
instance ownN_p : OwnP ownN := by
  refine ⟨fun h n => ⟨h.1, (upd_ne n).trans h.2.1, h.2.2⟩, fun {F L D o} h => ?_, fun h n => ⟨h.1, h.2.1, (upd_ne n).trans h.2.2⟩, fun {F L D o} h => ?_⟩
  · have n : L ≠ D := fun z => by
      have := h.2.1
      rw [z] at this
      exact nomatch (show some o = none from upd_same.symm.trans this)
    exact ⟨n, h.1, (upd_ne n).symm.trans h.2.1, h.2.2⟩
  · have n : L ≠ D := fun z => by
      have := h.2.2
      rw [z] at this
      exact nomatch (show some o = none from upd_same.symm.trans this)
    exact ⟨n, h.1, h.2.1, (upd_ne n).symm.trans h.2.2⟩
instance ownI_p {k : Nat} : OwnP (ownI k) := by
  refine ⟨fun h n => ⟨h.1, (upd_ne n).trans h.2.1, h.2.2⟩, fun {F L D o} h => ?_, fun h n => ⟨h.1, h.2.1, (upd_ne n).trans h.2.2⟩, fun {F L D o} h => ?_⟩
  · have n : L ≠ D := fun z => by
      have := h.2.1
      rw [z] at this
      exact nomatch (show some o = none from upd_same.symm.trans this)
    exact ⟨n, h.1, (upd_ne n).symm.trans h.2.1, h.2.2⟩
  · have n : L ≠ D := fun z => by
      have := h.2.2
      rw [z] at this
      exact nomatch (show some o = none from upd_same.symm.trans this)
    exact ⟨n, h.1, h.2.1, (upd_ne n).symm.trans h.2.2⟩
def eOwP {α ε : Type} (own : Frm → Addr → Prop) [op : OwnP own] (q : ORep α) (R : ERep ε) : ERep (Option α × ε) :=
  ⟨fun K F G H σ e => ∃ o σ', σ = o :: σ' ∧ ((e.1 = none ∧ R.rel K F G H σ' e.2) ∨ ∃ x L ho, e.1 = some x ∧ o = some (.ref L) ∧ H L = some ho ∧ G L = none ∧ own F L ∧ q.rel K G ho x ∧ R.rel K F G (hide H L) σ' e.2), fun {K F G G' H H' σ e} g h n ⟨o, σ', h1, h2⟩ => by
    refine ⟨o, σ', h1, ?_⟩
    rcases h2 with ⟨a, b⟩ | ⟨x, L, ho, a1, a2, a3, a4, a5, a6, a7⟩
    · exact .inl ⟨a, R.mono g h n b⟩
    · refine .inr ⟨x, L, ho, a1, a2, h _ _ a3, ?_, a5, q.mono g a6, R.mono g h.hide (fun b hb hn => n b (hide_sub.ne hb) hn) a7⟩
      cases z : G' L with
      | none => rfl
      | some u => exact absurd a4 (n L (by rw [a3]; intro z; cases z) (by rw [z]; intro z; cases z)),
   fun {K F G H σ e D o'} ⟨o, σ', h1, h2⟩ => by
    refine ⟨o, σ', h1, ?_⟩
    rcases h2 with ⟨a, b⟩ | ⟨x, L, ho, a1, a2, a3, a4, a5, a6, a7⟩
    · exact .inl ⟨a, R.lock b⟩
    · obtain ⟨n, a3'⟩ := hide_some a3
      exact .inr ⟨x, L, ho, a1, a2, a3', a4, op.lock a5 n, a6, R.lock (by rw [hide_comm]; exact a7)⟩,
   fun {K F G H σ e D o'} ⟨o, σ', h1, h2⟩ => by
    refine ⟨o, σ', h1, ?_⟩
    rcases h2 with ⟨a, b⟩ | ⟨x, L, ho, a1, a2, a3, a4, a5, a6, a7⟩
    · exact .inl ⟨a, R.unlock b⟩
    · obtain ⟨n, a5'⟩ := op.unlock a5
      exact .inr ⟨x, L, ho, a1, a2, by rw [hide_ne n]; exact a3, a4, a5', a6, by rw [hide_comm]; exact R.unlock a7⟩⟩
abbrev eOw {α ε : Type} (q : ORep α) (R : ERep ε) : ERep (Option α × ε) := eOwP ownN q R
abbrev eIo {α ε : Type} (k : Nat) (q : ORep α) (R : ERep ε) : ERep (Option α × ε) := eOwP (ownI k) q R
/-- a name that holds an object that stood before and is only read -/
def eBo {α ε : Type} (q : ORep α) (R : ERep ε) : ERep (Option α × ε) :=
  ⟨fun K F G H σ e => ∃ o σ', σ = o :: σ' ∧ (∀ x, e.1 = some x → ∃ L ho, o = some (.ref L) ∧ F.H0 L = some ho ∧ L ∉ F.ws ∧ q.rel K G ho x) ∧ R.rel K F G H σ' e.2, fun g h n ⟨o, σ', h1, h2, h3⟩ =>
    ⟨o, σ', h1, fun x hx => let ⟨L, ho, a, b, c, d⟩ := h2 x hx; ⟨L, ho, a, b, c, q.mono g d⟩, R.mono g h n h3⟩,
   fun ⟨o, σ', h1, h2, h3⟩ => ⟨o, σ', h1, h2, R.lock h3⟩, fun ⟨o, σ', h1, h2, h3⟩ => ⟨o, σ', h1, h2, R.unlock h3⟩⟩
/-- a name that holds a dict that is walked -/
def ePr {α ε : Type} (q : ORep α) (R : ERep ε) : ERep (Option α × ε) :=
  ⟨fun K F G H σ e => ∃ o σ', σ = o :: σ' ∧ (∀ x, e.1 = some x → ∃ L ho, o = some (.ref L) ∧ F.Y L = some ho ∧ q.rel K G ho x) ∧ R.rel K F G H σ' e.2, fun g h n ⟨o, σ', h1, h2, h3⟩ =>
    ⟨o, σ', h1, fun x hx => let ⟨L, ho, a, b, d⟩ := h2 x hx; ⟨L, ho, a, b, q.mono g d⟩, R.mono g h n h3⟩,
   fun ⟨o, σ', h1, h2, h3⟩ => ⟨o, σ', h1, h2, R.lock h3⟩, fun ⟨o, σ', h1, h2, h3⟩ => ⟨o, σ', h1, h2, R.unlock h3⟩⟩
/-- a slot of the mirror's names -/
structure Ln (ε α : Type) where
  get : ε → Option α
  put : Option α → ε → ε
def Ln.z {α ε : Type} : Ln (Option α × ε) α := ⟨fun e => e.1, fun a e => (a, e.2)⟩
def Ln.s {α β ε : Type} (l : Ln ε α) : Ln (β × ε) α := ⟨fun e => l.get e.2, fun a e => (e.1, l.put a e.2)⟩
section
variable {α β ε : Type} {l : Ln ε α} {e : ε} {x y : Option α} {z : β}
@[simp] theorem Ln.get_z {a : Option α} : (Ln.z : Ln (Option α × ε) α).get (a, e) = a := rfl
@[simp] theorem Ln.put_z {a : Option α} : (Ln.z : Ln (Option α × ε) α).put x (a, e) = (x, e) := rfl
@[simp] theorem Ln.get_s : (Ln.s l : Ln (β × ε) α).get (z, e) = l.get e := rfl
@[simp] theorem Ln.put_s : (Ln.s l : Ln (β × ε) α).put x (z, e) = (z, l.put x e) := rfl
end
structure FrAt {α ε : Type} (R : ERep ε) (n : Nat) (r : Rep α) (l : Ln ε α) : Prop where
  rd : ∀ {K F G H σ e a}, R.rel K F G H σ e → l.get e = some a → ∃ v, σ[n]? = some (some v) ∧ r.rel K G v a
  wr : ∀ {K F G H σ e a v}, R.rel K F G H σ e → r.rel K G v a → R.rel K F G H (σ.set n (some v)) (l.put (some a) e)
  kl : ∀ {K F G H σ e}, R.rel K F G H σ e → R.rel K F G H σ (l.put none e)
  wn : ∀ {K F G H σ e}, R.rel K F G H σ e → R.rel K F G H (σ.set n none) (l.put none e)
  rs : ∀ {K F G H G' H' σ e e'}, R.rel K F G H σ e → Sub G G' → R.rel K F G' H' (σ.set n none) e' → R.rel K F G' H' σ (l.put (l.get e) e')
structure OwAt {α ε : Type} (R : ERep ε) (n : Nat) (own : Frm → Addr → Prop) (q : ORep α) (l : Ln ε α) : Prop where
  rd : ∀ {K F G H σ e a}, R.rel K F G H σ e → l.get e = some a → ∃ L ho, σ[n]? = some (some (.ref L)) ∧ H L = some ho ∧ G L = none ∧ own F L ∧ q.rel K G ho a ∧ R.rel K F G (hide H L) σ (l.put none e)
  bk : ∀ {K F G H σ e L ho a}, R.rel K F G (hide H L) σ e → σ[n]? = some (some (.ref L)) → H L = some ho → G L = none → own F L → q.rel K G ho a → R.rel K F G H σ (l.put (some a) e)
  wr : ∀ {K F G H σ e L ho a}, R.rel K F G (hide H L) σ e → H L = some ho → G L = none → own F L → q.rel K G ho a → R.rel K F G H (σ.set n (some (.ref L))) (l.put (some a) e)
  kl : ∀ {K F G H σ e}, R.rel K F G H σ e → R.rel K F G H σ (l.put none e)
structure BoAt {α ε : Type} (R : ERep ε) (n : Nat) (q : ORep α) (l : Ln ε α) : Prop where
  rd : ∀ {K F G H σ e a}, R.rel K F G H σ e → l.get e = some a → ∃ L ho, σ[n]? = some (some (.ref L)) ∧ F.H0 L = some ho ∧ L ∉ F.ws ∧ q.rel K G ho a
section
variable {α β ε : Type} {R : ERep ε} {n : Nat} {r : Rep α} {q : ORep α} {own own' : Frm → Addr → Prop} [op : OwnP own] [op' : OwnP own'] {l : Ln ε α} {r' : Rep β} {q' : ORep β}
theorem FrAt.z : FrAt (eFr r R) 0 r Ln.z := by
  refine ⟨?_, ?_, ?_, ?_, ?_⟩
  · rintro K F G H σ e a ⟨o, σ', rfl, h2, h3⟩ h
    obtain ⟨v, rfl, hv⟩ := h2 a h
    exact ⟨v, rfl, hv⟩
  · rintro K F G H σ e a v ⟨o, σ', rfl, h2, h3⟩ h
    exact ⟨some v, σ', rfl, fun x hx => ⟨v, rfl, by cases hx; exact h⟩, h3⟩
  · rintro K F G H σ e ⟨o, σ', rfl, h2, h3⟩
    exact ⟨o, σ', rfl, fun x hx => (nomatch hx), h3⟩
  · rintro K F G H σ e ⟨o, σ', rfl, h2, h3⟩
    exact ⟨none, σ', rfl, fun x hx => (nomatch hx), h3⟩
  · rintro K F G H G' H' σ e e' ⟨o, σ', rfl, h2, h3⟩ s ⟨o', σ'', h4, h5, h6⟩
    obtain ⟨rfl, rfl⟩ := List.cons.inj h4
    exact ⟨o, σ', rfl, fun x hx => let ⟨v, a, b⟩ := h2 x hx; ⟨v, a, r.mono s b⟩, h6⟩
theorem FrAt.sF (h : FrAt R n r l) : FrAt (eFr r' R) (n + 1) r (Ln.s l) := by
  refine ⟨?_, ?_, ?_, ?_, ?_⟩
  · rintro K F G H σ e a ⟨o, σ', rfl, h2, h3⟩ hh
    exact h.rd h3 hh
  · rintro K F G H σ e a v ⟨o, σ', rfl, h2, h3⟩ hh
    exact ⟨o, _, rfl, h2, h.wr h3 hh⟩
  · rintro K F G H σ e ⟨o, σ', rfl, h2, h3⟩
    exact ⟨o, _, rfl, h2, h.kl h3⟩
  · rintro K F G H σ e ⟨o, σ', rfl, h2, h3⟩
    exact ⟨o, _, rfl, h2, h.wn h3⟩
  · rintro K F G H G' H' σ e e' ⟨o, σ', rfl, h2, h3⟩ s ⟨o', σ'', h4, h5, h6⟩
    obtain ⟨rfl, rfl⟩ := List.cons.inj h4
    exact ⟨_, _, rfl, h5, h.rs h3 s h6⟩
theorem FrAt.sB (h : FrAt R n r l) : FrAt (eBo q' R) (n + 1) r (Ln.s l) := by
  refine ⟨?_, ?_, ?_, ?_, ?_⟩
  · rintro K F G H σ e a ⟨o, σ', rfl, h2, h3⟩ hh
    exact h.rd h3 hh
  · rintro K F G H σ e a v ⟨o, σ', rfl, h2, h3⟩ hh
    exact ⟨o, _, rfl, h2, h.wr h3 hh⟩
  · rintro K F G H σ e ⟨o, σ', rfl, h2, h3⟩
    exact ⟨o, _, rfl, h2, h.kl h3⟩
  · rintro K F G H σ e ⟨o, σ', rfl, h2, h3⟩
    exact ⟨o, _, rfl, h2, h.wn h3⟩
  · rintro K F G H G' H' σ e e' ⟨o, σ', rfl, h2, h3⟩ s ⟨o', σ'', h4, h5, h6⟩
    obtain ⟨rfl, rfl⟩ := List.cons.inj h4
    exact ⟨_, _, rfl, h5, h.rs h3 s h6⟩
theorem FrAt.sO (h : FrAt R n r l) : FrAt (eOwP own q' R) (n + 1) r (Ln.s l) := by
  refine ⟨?_, ?_, ?_, ?_, ?_⟩
  · rintro K F G H σ e a ⟨o, σ', rfl, ⟨h1, h2⟩ | ⟨x, L, ho, a1, a2, a3, a4, a5, a6, a7⟩⟩ hh
    · exact h.rd h2 hh
    · exact h.rd a7 hh
  · rintro K F G H σ e a v ⟨o, σ', rfl, ⟨h1, h2⟩ | ⟨x, L, ho, a1, a2, a3, a4, a5, a6, a7⟩⟩ hh
    · exact ⟨o, _, rfl, .inl ⟨h1, h.wr h2 hh⟩⟩
    · exact ⟨o, _, rfl, .inr ⟨x, L, ho, a1, a2, a3, a4, a5, a6, h.wr a7 hh⟩⟩
  · rintro K F G H σ e ⟨o, σ', rfl, ⟨h1, h2⟩ | ⟨x, L, ho, a1, a2, a3, a4, a5, a6, a7⟩⟩
    · exact ⟨o, _, rfl, .inl ⟨h1, h.kl h2⟩⟩
    · exact ⟨o, _, rfl, .inr ⟨x, L, ho, a1, a2, a3, a4, a5, a6, h.kl a7⟩⟩
  · rintro K F G H σ e ⟨o, σ', rfl, ⟨h1, h2⟩ | ⟨x, L, ho, a1, a2, a3, a4, a5, a6, a7⟩⟩
    · exact ⟨o, _, rfl, .inl ⟨h1, h.wn h2⟩⟩
    · exact ⟨o, _, rfl, .inr ⟨x, L, ho, a1, a2, a3, a4, a5, a6, h.wn a7⟩⟩
  · rintro K F G H G' H' σ e e' ⟨o, σ', rfl, hx⟩ s ⟨o', σ'', h4, hy⟩
    obtain ⟨rfl, rfl⟩ := List.cons.inj h4
    have old : ∃ H1, R.rel K F G H1 σ' e.2 := by
      rcases hx with ⟨_, h2⟩ | ⟨_, _, _, _, _, _, _, _, _, a7⟩
      · exact ⟨_, h2⟩
      · exact ⟨_, a7⟩
    obtain ⟨H1, h3⟩ := old
    rcases hy with ⟨h1, h2⟩ | ⟨x, L, ho, a1, a2, a3, a4, a5, a6, a7⟩
    · exact ⟨_, _, rfl, .inl ⟨h1, h.rs h3 s h2⟩⟩
    · exact ⟨_, _, rfl, .inr ⟨x, L, ho, a1, a2, a3, a4, a5, a6, h.rs h3 s a7⟩⟩
theorem FrAt.sP (h : FrAt R n r l) : FrAt (ePr q' R) (n + 1) r (Ln.s l) := by
  refine ⟨?_, ?_, ?_, ?_, ?_⟩
  · rintro K F G H σ e a ⟨o, σ', rfl, h2, h3⟩ hh
    exact h.rd h3 hh
  · rintro K F G H σ e a v ⟨o, σ', rfl, h2, h3⟩ hh
    exact ⟨o, _, rfl, h2, h.wr h3 hh⟩
  · rintro K F G H σ e ⟨o, σ', rfl, h2, h3⟩
    exact ⟨o, _, rfl, h2, h.kl h3⟩
  · rintro K F G H σ e ⟨o, σ', rfl, h2, h3⟩
    exact ⟨o, _, rfl, h2, h.wn h3⟩
  · rintro K F G H G' H' σ e e' ⟨o, σ', rfl, h2, h3⟩ s ⟨o', σ'', h4, h5, h6⟩
    obtain ⟨rfl, rfl⟩ := List.cons.inj h4
    exact ⟨_, _, rfl, h5, h.rs h3 s h6⟩
theorem OwAt.z : OwAt (eOwP own q R) 0 own q Ln.z := by
  refine ⟨?_, ?_, ?_, ?_⟩
  · rintro K F G H σ e a ⟨o, σ', rfl, ⟨h1, h2⟩ | ⟨x, L, ho, a1, a2, a3, a4, a5, a6, a7⟩⟩ hh
    · rw [show (Ln.z : Ln _ α).get e = e.1 from rfl, h1] at hh; cases hh
    · rw [show (Ln.z : Ln _ α).get e = e.1 from rfl, a1] at hh
      cases hh
      exact ⟨L, ho, by rw [a2]; rfl, a3, a4, a5, a6, o, _, rfl, .inl ⟨rfl, a7⟩⟩
  · rintro K F G H σ e L ho a ⟨o, σ', rfl, ⟨h1, h2⟩ | ⟨x, L', ho', a1, a2, a3, a4, a5, a6, a7⟩⟩ hs hl gl ow hq
    · exact ⟨o, _, rfl, .inr ⟨a, L, ho, rfl, by simpa using hs, hl, gl, ow, hq, h2⟩⟩
    · exact ⟨o, _, rfl, .inr ⟨a, L, ho, rfl, by simpa using hs, hl, gl, ow, hq, R.mono .refl hide_sub (fun b _ h => h) a7⟩⟩
  · rintro K F G H σ e L ho a ⟨o, σ', rfl, ⟨h1, h2⟩ | ⟨x, L', ho', a1, a2, a3, a4, a5, a6, a7⟩⟩ hl gl ow hq
    · exact ⟨_, _, rfl, .inr ⟨a, L, ho, rfl, rfl, hl, gl, ow, hq, h2⟩⟩
    · exact ⟨_, _, rfl, .inr ⟨a, L, ho, rfl, rfl, hl, gl, ow, hq, R.mono .refl hide_sub (fun b _ h => h) a7⟩⟩
  · rintro K F G H σ e ⟨o, σ', rfl, ⟨h1, h2⟩ | ⟨x, L', ho', a1, a2, a3, a4, a5, a6, a7⟩⟩
    · exact ⟨o, _, rfl, .inl ⟨rfl, h2⟩⟩
    · exact ⟨o, _, rfl, .inl ⟨rfl, R.mono .refl hide_sub (fun b _ h => h) a7⟩⟩
theorem OwAt.sF (h : OwAt R n own q l) : OwAt (eFr r' R) (n + 1) own q (Ln.s l) := by
  refine ⟨?_, ?_, ?_, ?_⟩
  · rintro K F G H σ e a ⟨o, σ', rfl, h2, h3⟩ hh
    obtain ⟨L, ho, b1, b2, b3, b4, b5, b6⟩ := h.rd h3 hh
    exact ⟨L, ho, b1, b2, b3, b4, b5, o, _, rfl, h2, b6⟩
  · rintro K F G H σ e L ho a ⟨o, σ', rfl, h2, h3⟩ hs hl gl ow hq
    exact ⟨o, _, rfl, h2, h.bk h3 hs hl gl ow hq⟩
  · rintro K F G H σ e L ho a ⟨o, σ', rfl, h2, h3⟩ hl gl ow hq
    exact ⟨o, _, rfl, h2, h.wr h3 hl gl ow hq⟩
  · rintro K F G H σ e ⟨o, σ', rfl, h2, h3⟩
    exact ⟨o, _, rfl, h2, h.kl h3⟩
theorem OwAt.sB (h : OwAt R n own q l) : OwAt (eBo q' R) (n + 1) own q (Ln.s l) := by
  refine ⟨?_, ?_, ?_, ?_⟩
  · rintro K F G H σ e a ⟨o, σ', rfl, h2, h3⟩ hh
    obtain ⟨L, ho, b1, b2, b3, b4, b5, b6⟩ := h.rd h3 hh
    exact ⟨L, ho, b1, b2, b3, b4, b5, o, _, rfl, h2, b6⟩
  · rintro K F G H σ e L ho a ⟨o, σ', rfl, h2, h3⟩ hs hl gl ow hq
    exact ⟨o, _, rfl, h2, h.bk h3 hs hl gl ow hq⟩
  · rintro K F G H σ e L ho a ⟨o, σ', rfl, h2, h3⟩ hl gl ow hq
    exact ⟨o, _, rfl, h2, h.wr h3 hl gl ow hq⟩
  · rintro K F G H σ e ⟨o, σ', rfl, h2, h3⟩
    exact ⟨o, _, rfl, h2, h.kl h3⟩
theorem OwAt.sO (h : OwAt R n own q l) : OwAt (eOwP own' q' R) (n + 1) own q (Ln.s l) := by
  refine ⟨?_, ?_, ?_, ?_⟩
  · rintro K F G H σ e a ⟨o, σ', rfl, ⟨h1, h2⟩ | ⟨x, L', ho', a1, a2, a3, a4, a5, a6, a7⟩⟩ hh
    · obtain ⟨L, ho, b1, b2, b3, b4, b5, b6⟩ := h.rd h2 hh
      exact ⟨L, ho, b1, b2, b3, b4, b5, o, _, rfl, .inl ⟨h1, b6⟩⟩
    · obtain ⟨L, ho, b1, b2, b3, b4, b5, b6⟩ := h.rd a7 hh
      obtain ⟨n1, b2'⟩ := hide_some b2
      refine ⟨L, ho, b1, b2', b3, b4, b5, o, _, rfl, .inr ⟨x, L', ho', a1, a2, by rw [hide_ne n1.symm]; exact a3, a4, a5, a6, ?_⟩⟩
      rw [hide_comm]
      exact b6
  · rintro K F G H σ e L ho a ⟨o, σ', rfl, ⟨h1, h2⟩ | ⟨x, L', ho', a1, a2, a3, a4, a5, a6, a7⟩⟩ hs hl gl ow hq
    · exact ⟨o, _, rfl, .inl ⟨h1, h.bk h2 hs hl gl ow hq⟩⟩
    · obtain ⟨n1, a3'⟩ := hide_some a3
      refine ⟨o, _, rfl, .inr ⟨x, L', ho', a1, a2, a3', a4, a5, a6, h.bk ?_ hs (by rw [hide_ne n1.symm]; exact hl) gl ow hq⟩⟩
      rw [hide_comm]
      exact a7
  · rintro K F G H σ e L ho a ⟨o, σ', rfl, ⟨h1, h2⟩ | ⟨x, L', ho', a1, a2, a3, a4, a5, a6, a7⟩⟩ hl gl ow hq
    · exact ⟨o, _, rfl, .inl ⟨h1, h.wr h2 hl gl ow hq⟩⟩
    · obtain ⟨n1, a3'⟩ := hide_some a3
      refine ⟨o, _, rfl, .inr ⟨x, L', ho', a1, a2, a3', a4, a5, a6, h.wr ?_ (by rw [hide_ne n1.symm]; exact hl) gl ow hq⟩⟩
      rw [hide_comm]
      exact a7
  · rintro K F G H σ e ⟨o, σ', rfl, ⟨h1, h2⟩ | ⟨x, L', ho', a1, a2, a3, a4, a5, a6, a7⟩⟩
    · exact ⟨o, _, rfl, .inl ⟨h1, h.kl h2⟩⟩
    · exact ⟨o, _, rfl, .inr ⟨x, L', ho', a1, a2, a3, a4, a5, a6, h.kl a7⟩⟩
theorem BoAt.z : BoAt (eBo q R) 0 q Ln.z := ⟨by
  rintro K F G H σ e a ⟨o, σ', rfl, h2, h3⟩ h
  obtain ⟨L, ho, rfl, hv⟩ := h2 a h
  exact ⟨L, ho, rfl, hv⟩⟩
theorem BoAt.sF (h : BoAt R n q l) : BoAt (eFr r' R) (n + 1) q (Ln.s l) := ⟨by
  rintro K F G H σ e a ⟨o, σ', rfl, h2, h3⟩ hh
  exact h.rd h3 hh⟩
theorem BoAt.sO (h : BoAt R n q l) : BoAt (eOwP own' q' R) (n + 1) q (Ln.s l) := ⟨by
  rintro K F G H σ e a ⟨o, σ', rfl, ⟨h1, h2⟩ | ⟨x, L', ho', a1, a2, a3, a4, a5, a6, a7⟩⟩ hh
  · exact h.rd h2 hh
  · exact h.rd a7 hh⟩
structure PrAt {α ε : Type} (R : ERep ε) (n : Nat) (q : ORep α) (l : Ln ε α) : Prop where
  rd : ∀ {K F G H σ e a}, R.rel K F G H σ e → l.get e = some a → ∃ L ho, σ[n]? = some (some (.ref L)) ∧ F.Y L = some ho ∧ q.rel K G ho a
theorem PrAt.z : PrAt (ePr q R) 0 q Ln.z := ⟨by
  rintro K F G H σ e a ⟨o, σ', rfl, h2, h3⟩ h
  obtain ⟨L, ho, rfl, hv⟩ := h2 a h
  exact ⟨L, ho, rfl, hv⟩⟩
theorem PrAt.sF (h : PrAt R n q l) : PrAt (eFr r' R) (n + 1) q (Ln.s l) := ⟨by
  rintro K F G H σ e a ⟨o, σ', rfl, h2, h3⟩ hh
  exact h.rd h3 hh⟩
theorem PrAt.sO (h : PrAt R n q l) : PrAt (eOwP own' q' R) (n + 1) q (Ln.s l) := ⟨by
  rintro K F G H σ e a ⟨o, σ', rfl, ⟨h1, h2⟩ | ⟨x, L', ho', a1, a2, a3, a4, a5, a6, a7⟩⟩ hh
  · exact h.rd h2 hh
  · exact h.rd a7 hh⟩
/-- a dict is locked while it is walked: the names under the lock -/
structure LkR (R : ERep ε) : Prop where
  lk : ∀ {K F G H σ e D o}, R.rel K F G (hide H D) σ e → R.rel K (F.lockY D o) G H σ e
  ul : ∀ {K F G H σ e D o}, R.rel K (F.lockY D o) G H σ e → R.rel K F G (hide H D) σ e
theorem LkR.nil : LkR eNil := ⟨fun h => h, fun h => h⟩
theorem LkR.fr (h : LkR R) : LkR (eFr r R) := ⟨fun ⟨o, σ', h1, h2, h3⟩ => ⟨o, σ', h1, h2, h.lk h3⟩, fun ⟨o, σ', h1, h2, h3⟩ => ⟨o, σ', h1, h2, h.ul h3⟩⟩
structure Sw (R R' : ERep ε) (n : Nat) (q' : ORep α) (l : Ln ε α) : Prop where
  to : ∀ {K F G H σ e L ho a}, R.rel K F G (hide H L) σ (l.put none e) → σ[n]? = some (some (.ref L)) → q'.rel K G ho a → R'.rel K (F.lockY L ho) G H σ (l.put (some a) e)
  bk : ∀ {K F G H σ e L ho}, R'.rel K (F.lockY L ho) G H σ e → R.rel K F G (hide H L) σ (l.put none e)
theorem Sw.z {q1 : ORep α} (h : LkR R) : Sw (eOwP own q R) (ePr q1 R) 0 q1 Ln.z := by
  refine ⟨?_, ?_⟩
  · rintro K F G H σ e L ho a ⟨o, σ', rfl, ⟨h1, h2⟩ | ⟨x, L', ho', a1, a2, a3, a4, a5, a6, a7⟩⟩ hs hq
    · exact ⟨o, σ', rfl, fun x hx => ⟨L, ho, by simpa using hs, upd_same, by cases hx; exact hq⟩, h.lk h2⟩
    · cases a1
  · rintro K F G H σ e L ho ⟨o, σ', rfl, h1, h2⟩
    exact ⟨o, σ', rfl, .inl ⟨rfl, h.ul h2⟩⟩
theorem Sw.sF {R1 R1' : ERep ε} {q1 : ORep α} (h : Sw R1 R1' n q1 l) : Sw (eFr r' R1) (eFr r' R1') (n + 1) q1 (Ln.s l) := by
  refine ⟨?_, ?_⟩
  · rintro K F G H σ e L ho a ⟨o, σ', rfl, h1, h2⟩ hs hq
    exact ⟨o, σ', rfl, h1, h.to h2 hs hq⟩
  · rintro K F G H σ e L ho ⟨o, σ', rfl, h1, h2⟩
    exact ⟨o, σ', rfl, h1, h.bk h2⟩
theorem Sw.sO {R1 R1' : ERep ε} {q1 : ORep α} (h : Sw R1 R1' n q1 l) : Sw (eOwP own' q' R1) (eOwP own' q' R1') (n + 1) q1 (Ln.s l) := by
  refine ⟨?_, ?_⟩
  · rintro K F G H σ e L ho a ⟨o, σ', rfl, ⟨h1, h2⟩ | ⟨x, L', ho', a1, a2, a3, a4, a5, a6, a7⟩⟩ hs hq
    · exact ⟨o, σ', rfl, .inl ⟨h1, h.to h2 hs hq⟩⟩
    · obtain ⟨n1, a3'⟩ := hide_some a3
      exact ⟨o, σ', rfl, .inr ⟨x, L', ho', a1, a2, a3', a4, op'.lockY a5 n1, a6, h.to (by rw [hide_comm]; exact a7) hs hq⟩⟩
  · rintro K F G H σ e L ho ⟨o, σ', rfl, ⟨h1, h2⟩ | ⟨x, L', ho', a1, a2, a3, a4, a5, a6, a7⟩⟩
    · exact ⟨o, σ', rfl, .inl ⟨h1, h.bk h2⟩⟩
    · obtain ⟨n1, a5'⟩ := op'.unlockY a5
      exact ⟨o, σ', rfl, .inr ⟨x, L', ho', a1, a2, by rw [hide_ne n1]; exact a3, a4, a5', a6, by rw [hide_comm]; exact h.bk a7⟩⟩
end
section
variable {α β γ ε ρ ν : Type} {M : Mx} {R : ERep ε} {F : Frm} {G G1 H : Hp} {σ : Sg} {n : Nat} {l : Ln ε α} {own : Frm → Addr → Prop}
def mVar (l : Ln ε α) : ε → Rs ε α := fun e => .of (l.get e) e
theorem x_var {r : Rep α} (at' : FrAt R n r l) : EX M R (tVar n) (fz r) (mVar l) := fun F G H σ e i hR Q p => by
  obtain ⟨b, hb, p2⟩ := of_some p
  obtain ⟨v, h1, h2⟩ := at'.rd hR hb
  exact ⟨v, h1, p2 v G H H i .refl ⟨h2, rfl⟩ hR⟩
/-- an own object, handed over: the name is done with -/
def mMove (l : Ln ε α) : ε → Rs ε α := fun e => .of (l.get e) (l.put none e)
theorem x_move {q : ORep α} (at' : OwAt R n ownN q l) : EX M R (tVar n) (fs q) (mMove l) := fun F G H σ e i hR Q p => by
  obtain ⟨b, hb, p2⟩ := of_some p
  obtain ⟨L, ho, h1, h2, h3, h4, h5, h6⟩ := at'.rd hR hb
  exact ⟨.ref L, h1, p2 (.ref L) G H (hide H L) i .refl ⟨L, ho, rfl, h2, h3, h4, h5, rfl⟩ h6⟩
/-- the name's object, as it stands; whenever it is asked, it is at the same place -/
structure Late (R : ERep ε) (n : Nat) (q : ORep α) (l : Ln ε α) : Prop where
  rd : ∀ {K F G H σ e a}, IV F G H → R.rel K F G H σ e → l.get e = some a → ∃ L ho, σ[n]? = some (some (.ref L)) ∧ H L = some ho ∧ q.rel K G ho a
theorem Late.ow {q : ORep α} (at' : OwAt R n own q l) : Late R n q l := ⟨fun i h e => let ⟨L, ho, a, b, _, _, c, _⟩ := at'.rd h e; ⟨L, ho, a, b, c⟩⟩
theorem Late.bo {q : ORep α} (at' : BoAt R n q l) : Late R n q l := ⟨fun i h e => let ⟨L, ho, a, b, c, d⟩ := at'.rd h e; ⟨L, ho, a, i.fr _ _ c b, d⟩⟩
theorem x_varL {q : ORep α} (at' : Late R n q l) : EX M R (tVar n) (is (rd q)) (mVar l) := fun F G H σ e i hR Q p => by
  obtain ⟨b, hb, p2⟩ := of_some p
  obtain ⟨L, ho, h1, h2, h5⟩ := at'.rd i hR hb
  exact ⟨.ref L, h1, p2 (.ref L) G H H i .refl ⟨⟨L, ho, rfl, h2, h5⟩, rfl⟩ hR⟩
theorem Late.fr {q : ORep α} (at' : FrAt R n (rz q) l) : Late R n q l := ⟨fun i h e => let ⟨v, a, L, ho, b, c, d⟩ := at'.rd h e; ⟨L, ho, by rw [a, b], i.gh _ _ c, d⟩⟩
def mOpL (g : α → β → Option γ) (l : Ln ε α) (m : ε → Rs ε β) : ε → Rs ε γ := fun e => match l.get e with
  | none => .bad
  | some _ => (m e).bind fun b e1 => (mVar l e1).bind fun a e2 => .of (g a b) e2
/-- the first operand is a name's object -/
theorem x_opL {u : Sg → Hp → (ν → Hp → Prop) → Prop} {ν' : Type} {T : V → ν → Hp → (ν' → Hp → Prop) → Prop} {q : ORep α} {s : IR ν β} {r' : GR ν' γ} {g : α → β → Option γ} {m : ε → Rs ε β}
    (vr : VR2 M.K T (rd q) s r' g) (at' : Late R n q l) (h : EX M R u (is s) m) : EX M R (fun σ H Q => tVar n σ H fun x H1 => u σ H1 fun y H2 => T x y H2 Q) (fz r') (mOpL g l m) := fun F G H σ e i hR Q p => by
  unfold mOpL at p
  cases h0 : l.get e with
  | none => rw [h0] at p; exact p.elim
  | some a0 =>
    rw [h0] at p
    obtain ⟨L0, ho0, h1, _⟩ := at'.rd i hR h0
    refine ⟨_, h1, h F G H σ e i hR _ (p.bind (fun _ _ _ _ _ _ _ z => z.2) fun w b e1 G1 H1 i1 s1 R1 r1 p1 => ?_)⟩
    unfold mVar at p1
    cases h2 : l.get e1 with
    | none => rw [h2] at p1; exact p1.elim
    | some a1 =>
      rw [h2] at p1
      obtain ⟨L, ho, h3, h4, h5⟩ := at'.rd i1 R1 h2
      rw [h1] at h3
      cases h3
      obtain ⟨c, hc, p3⟩ := of_some p1
      exact vr G1 H1 _ w a1 b c Q i1.gh ⟨_, ho, rfl, h4, h5⟩ r1.1 hc (p3.fin i1 R1)
theorem x_opLF {u : Sg → Hp → (ν → Hp → Prop) → Prop} {T : V → ν → Hp → (V → Hp → Prop) → Prop} {q : ORep α} {s : IR ν β} {q' : ORep γ} {g : α → β → Option γ} {m : ε → Rs ε β}
    (vr : VF2 M.K T (rd q) s q' g) (at' : Late R n q l) (h : EX M R u (is s) m) : EX M R (fun σ H Q => tVar n σ H fun x H1 => u σ H1 fun y H2 => T x y H2 Q) (fs q') (mOpL g l m) := fun F G H σ e i hR Q p => by
  unfold mOpL at p
  cases h0 : l.get e with
  | none => rw [h0] at p; exact p.elim
  | some a0 =>
    rw [h0] at p
    obtain ⟨L0, ho0, h1, _⟩ := at'.rd i hR h0
    refine ⟨_, h1, h F G H σ e i hR _ (p.bind (fun _ _ _ _ _ _ _ z => z.2) fun w b e1 G1 H1 i1 s1 R1 r1 p1 => ?_)⟩
    unfold mVar at p1
    cases h2 : l.get e1 with
    | none => rw [h2] at p1; exact p1.elim
    | some a1 =>
      rw [h2] at p1
      obtain ⟨L, ho, h3, h4, h5⟩ := at'.rd i1 R1 h2
      rw [h1] at h3
      cases h3
      obtain ⟨c, hc, p3⟩ := of_some p1
      exact vr G1 H1 _ w a1 b c Q i1.gh ⟨_, ho, rfl, h4, h5⟩ r1.1 hc (p3.finF i1 R1)
end
section
variable {ν ν' α β γ ε ρ : Type} {M : Mx} {R : ERep ε} {F : Frm} {G G1 H : Hp} {σ : Sg}
/-- a list that is not too long -/
def szOk (as : List α) : Option (List α) := if as.length ≤ 1000000 then some as else none
theorem szOk_some {as bs : List α} (h : szOk as = some bs) : as.length ≤ 1000000 ∧ bs = as := by
  unfold szOk at h
  split at h
  · next hz => cases h; exact ⟨hz, rfl⟩
  · cases h
theorem x_test {t : TE} {m : ε → Rs ε Bool} (h : EX M R t (fz rB) m) : EX M R (tTest t) (fz bR) m := fun F G H σ e i hR Q p => by
  refine h F G H σ e i hR _ ?_
  revert p
  cases m e with
  | ok a e' => exact fun p v G' H' H1 i1 s1 z R1 => ⟨a, z.1, p a G' H' H1 i1 s1 ⟨rfl, z.2⟩ R1⟩
  | ex c e' => exact id
  | bad => exact id
theorem x_tB {t : TE} {m : ε → Rs ε Bool} (h : EX M R t (fz rB) m) : EX M R (tB t) (fz bR) m := x_test h
def mNot (m : ε → Rs ε Bool) : ε → Rs ε Bool := fun e => (m e).bind fun b e1 => .ok (!b) e1
def mAnd (m n : ε → Rs ε Bool) : ε → Rs ε Bool := fun e => (m e).bind fun b e1 => if b = true then n e1 else .ok false e1
def mOr (m n : ε → Rs ε Bool) : ε → Rs ε Bool := fun e => (m e).bind fun b e1 => if b = true then .ok true e1 else n e1
def mIf (m : ε → Rs ε Bool) (n k : ε → Rs ε α) : ε → Rs ε α := fun e => (m e).bind fun b e1 => if b = true then n e1 else k e1
theorem fz_h {r : GR ν α} : ∀ K F G H v a H1, (fz r).rel K F G H v a H1 → H1 = H := fun _ _ _ _ _ _ _ z => z.2
theorem is_h {r : IR ν α} : ∀ K F G H v a H1, (is r).rel K F G H v a H1 → H1 = H := fun _ _ _ _ _ _ _ z => z.2
theorem x_not {t : TT} {m : ε → Rs ε Bool} (h : EX M R t (fz bR) m) : EX M R (tNot t) (fz bR) (mNot m) := fun F G H σ e i hR Q p =>
  h F G H σ e i hR _ (p.bind fz_h fun v a e1 G1 H1 i1 s1 R1 r1 p1 => by
    have e : v = a := r1.1
    subst e
    exact p1 (!v) G1 H1 H1 i1 .refl ⟨rfl, rfl⟩ R1)
theorem x_and {t u : TT} {m n : ε → Rs ε Bool} (h : EX M R t (fz bR) m) (k : EX M R u (fz bR) n) : EX M R (tAnd t u) (fz bR) (mAnd m n) := fun F G H σ e i hR Q p =>
  h F G H σ e i hR _ (p.bind fz_h fun v a e1 G1 H1 i1 s1 R1 r1 p1 => by
    have e : v = a := r1.1
    subst e
    cases v with
    | false => exact p1 false G1 H1 H1 i1 .refl ⟨rfl, rfl⟩ R1
    | true => exact k F G1 H1 σ e1 i1 R1 Q p1)
theorem x_or {t u : TT} {m n : ε → Rs ε Bool} (h : EX M R t (fz bR) m) (k : EX M R u (fz bR) n) : EX M R (tOr t u) (fz bR) (mOr m n) := fun F G H σ e i hR Q p =>
  h F G H σ e i hR _ (p.bind fz_h fun v a e1 G1 H1 i1 s1 R1 r1 p1 => by
    have e : v = a := r1.1
    subst e
    cases v with
    | true => exact p1 true G1 H1 H1 i1 .refl ⟨rfl, rfl⟩ R1
    | false => exact k F G1 H1 σ e1 i1 R1 Q p1)
theorem x_if {t : TT} {ta tb : TE} {rs : RS V α} {m : ε → Rs ε Bool} {n k : ε → Rs ε α} (h : EX M R t (fz bR) m) (ha : EX M R ta rs n) (hb : EX M R tb rs k) : EX M R (tIf t ta tb) rs (mIf m n k) := fun F G H σ e i hR Q p =>
  h F G H σ e i hR _ (p.bind fz_h fun v a e1 G1 H1 i1 s1 R1 r1 p1 => by
    have e : v = a := r1.1
    subst e
    cases v with
    | true => exact ha F G1 H1 σ e1 i1 R1 Q p1
    | false => exact hb F G1 H1 σ e1 i1 R1 Q p1)
theorem x_andV {t u : TE} {m n : ε → Rs ε Bool} (h : EX M R t (fz rB) m) (k : EX M R u (fz rB) n) : EX M R (tAndV t u) (fz rB) (mAnd m n) := fun F G H σ e i hR Q p =>
  h F G H σ e i hR _ (p.bind fz_h fun v a e1 G1 H1 i1 s1 R1 r1 p1 => ⟨a, r1.1, by
    cases a with
    | false => exact p1 (.bl false) G1 H1 H1 i1 .refl ⟨rfl, rfl⟩ R1
    | true => exact k F G1 H1 σ e1 i1 R1 Q p1⟩)
/-- a < b < c -/
def mChain (g : α → β → Option Bool) (g' : β → γ → Option Bool) (m : ε → Rs ε α) (n : ε → Rs ε β) (k : ε → Rs ε γ) : ε → Rs ε Bool := fun e => (m e).bind fun a e1 => (n e1).bind fun b e2 => (Rs.of (g a b) e2).bind fun c e3 => if c = true then (k e3).bind fun d e4 => .of (g' b d) e4 else .ok false e3
theorem x_chain {r r' : R2} {ta tb tc : TE} {ra : Rep α} {rb : Rep β} {rc : Rep γ} {g : α → β → Option Bool} {g' : β → γ → Option Bool} {m : ε → Rs ε α} {n : ε → Rs ε β} {k : ε → Rs ε γ}
    (vr : VR2 M.K r (ir ra) (ir rb) rB g) (vr' : VR2 M.K r' (ir rb) (ir rc) rB g') (h : EX M R ta (fz ra) m) (h' : EX M R tb (fz rb) n) (h'' : EX M R tc (fz rc) k) : EX M R (tChain r r' ta tb tc) (fz rB) (mChain g g' m n k) := fun F G H σ e i hR Q p =>
  h F G H σ e i hR _ (p.bind fz_h fun v a e1 G1 H1 i1 s1 R1 r1 p1 => h' F G1 H1 σ e1 i1 R1 _ (p1.bind fz_h fun w b e2 G2 H2 i2 s2 R2 r2 p2 => by
    cases hc : g a b with
    | none => rw [hc] at p2; exact p2.elim
    | some c =>
      rw [hc] at p2
      refine vr G2 H2 v w a b c _ i2.gh (ra.mono s2 r1.1) r2.1 hc fun z G3 H3 st hz => ⟨c, hz, ?_⟩
      have i3 := i2.step st
      have R3 := R.mono st.g st.h st.n R2
      cases c with
      | false => exact p2 (.bl false) G3 H3 H3 i3 st.g ⟨rfl, rfl⟩ R3
      | true =>
        rw [if_pos rfl]
        have p2 : Post M R F G2 σ (fz rB) Q ((k e2).bind fun d e4 => .of (g' b d) e4) := p2
        exact h'' F G3 H3 σ e2 i3 R3 _ ((Post.up p2 st.g).bind fz_h fun x d e4 G4 H4 i4 s4 R4 r4 p4 => by
          obtain ⟨y, hy, p5⟩ := of_some p4
          exact vr' G4 H4 w x b d y Q i4.gh (rb.mono (st.g.trans s4) r2.1) r4.1 hy (p5.fin i4 R4))))
def aNil : IR (List V) Unit := fun _ _ _ vs _ => vs = []
def aOne (i : IR V α) : IR (List V) α := fun K G H vs a => ∃ v, vs = [v] ∧ i K G H v a
def aCons (i : IR V α) (j : IR (List V) β) : IR (List V) (α × β) := fun K G H vs p => ∃ v ws, vs = v :: ws ∧ i K G H v p.1 ∧ j K G H ws p.2
def mPair (m : ε → Rs ε α) (n : ε → Rs ε β) : ε → Rs ε (α × β) := fun e => (m e).bind fun a e1 => (n e1).bind fun b e2 => .ok (a, b) e2
def mPairL (l : Ln ε α) (n : ε → Rs ε β) : ε → Rs ε (α × β) := fun e => match l.get e with
  | none => .bad
  | some _ => (n e).bind fun b e1 => (mVar l e1).bind fun a e2 => .ok (a, b) e2
theorem x_aone {t : TE} {j : IR V α} {m : ε → Rs ε α} (h : EX M R t (is j) m) : EX M R (tCons t tNil) (is (aOne j)) m := fun F G H σ e i hR Q p => by
  refine h F G H σ e i hR _ ?_
  revert p
  cases m e with
  | ok a e' => exact fun p v G' H' H1 i1 s1 z R1 => p [v] G' H' H1 i1 s1 ⟨⟨v, rfl, z.1⟩, z.2⟩ R1
  | ex c e' => exact id
  | bad => exact id
theorem x_acons {t : TE} {tr : TA} {r : Rep α} {j : IR V α} {k : IR (List V) β} {m : ε → Rs ε α} {n : ε → Rs ε β} (cv : Cv r j) (h : EX M R t (fz r) m) (h' : EX M R tr (is k) n) : EX M R (tCons t tr) (is (aCons j k)) (mPair m n) := fun F G H σ e i hR Q p =>
  h F G H σ e i hR _ (p.bind fz_h fun v a e1 G1 H1 i1 s1 R1 r1 p1 => h' F G1 H1 σ e1 i1 R1 _ (p1.bind is_h fun ws b e2 G2 H2 i2 s2 R2 r2 p2 =>
    p2 (v :: ws) G2 H2 H2 i2 .refl ⟨⟨v, ws, rfl, cv _ _ _ _ _ i2.gh (r.mono s2 r1.1), r2.1⟩, rfl⟩ R2))
theorem x_aconsL {n : Nat} {l : Ln ε α} {tr : TA} {q : ORep α} {k : IR (List V) β} {m : ε → Rs ε β} (at' : Late R n q l) (h' : EX M R tr (is k) m) : EX M R (tCons (tVar n) tr) (is (aCons (rd q) k)) (mPairL l m) := fun F G H σ e i hR Q p => by
  unfold mPairL at p
  cases h0 : l.get e with
  | none => rw [h0] at p; exact p.elim
  | some a0 =>
    rw [h0] at p
    obtain ⟨L0, ho0, h1, _⟩ := at'.rd i hR h0
    refine ⟨_, h1, h' F G H σ e i hR _ (p.bind is_h fun ws b e1 G1 H1 i1 s1 R1 r1 p1 => ?_)⟩
    unfold mVar at p1
    cases h2 : l.get e1 with
    | none => rw [h2] at p1; exact p1.elim
    | some a1 =>
      rw [h2] at p1
      obtain ⟨L, ho, h3, h4, h5⟩ := at'.rd i1 R1 h2
      rw [h1] at h3
      cases h3
      exact p1 (.ref _ :: ws) G1 H1 H1 i1 .refl ⟨⟨_, ws, rfl, ⟨_, ho, rfl, h4, h5⟩, r1.1⟩, rfl⟩ R1
def aLs (r : Rep α) : GR (List V) (List α) := ⟨fun K G vs as => A2 (r.rel K G) vs as, fun s h => h.mono fun _ _ => r.mono s⟩
def mCons (m : ε → Rs ε α) (n : ε → Rs ε (List α)) : ε → Rs ε (List α) := fun e => (m e).bind fun a e1 => (n e1).bind fun b e2 => .ok (a :: b) e2
theorem x_lnil {r : Rep α} : EX M R tNil (fz (aLs r)) (mC []) := fun F G H σ e i hR Q p => p [] G H H i .refl ⟨.nil, rfl⟩ hR
theorem x_lcons {t : TE} {tr : TA} {r : Rep α} {m : ε → Rs ε α} {n : ε → Rs ε (List α)} (h : EX M R t (fz r) m) (h' : EX M R tr (fz (aLs r)) n) : EX M R (tCons t tr) (fz (aLs r)) (mCons m n) := fun F G H σ e i hR Q p =>
  h F G H σ e i hR _ (p.bind fz_h fun v a e1 G1 H1 i1 s1 R1 r1 p1 => h' F G1 H1 σ e1 i1 R1 _ (p1.bind fz_h fun ws b e2 G2 H2 i2 s2 R2 r2 p2 =>
    p2 (v :: ws) G2 H2 H2 i2 .refl ⟨.cons (r.mono s2 r1.1) r2.1, rfl⟩ R2))
def aP2 (r : Rep α) (s : Rep β) : GR (List V) (α × β) := ⟨fun K G vs p => ∃ v w, vs = [v, w] ∧ r.rel K G v p.1 ∧ s.rel K G w p.2, fun u ⟨v, w, h1, h2, h3⟩ => ⟨v, w, h1, r.mono u h2, s.mono u h3⟩⟩
def aP3 (r : Rep α) (s : Rep β) (t : Rep γ) : GR (List V) (α × β × γ) := ⟨fun K G vs p => ∃ v w x, vs = [v, w, x] ∧ r.rel K G v p.1 ∧ s.rel K G w p.2.1 ∧ t.rel K G x p.2.2, fun u ⟨v, w, x, h1, h2, h3, h4⟩ => ⟨v, w, x, h1, r.mono u h2, s.mono u h3, t.mono u h4⟩⟩
theorem x_p2 {t u : TE} {r : Rep α} {s : Rep β} {m : ε → Rs ε α} {n : ε → Rs ε β} (h : EX M R t (fz r) m) (k : EX M R u (fz s) n) : EX M R (tCons t (tCons u tNil)) (fz (aP2 r s)) (mPair m n) := fun F G H σ e i hR Q p =>
  h F G H σ e i hR _ (p.bind fz_h fun v a e1 G1 H1 i1 s1 R1 r1 p1 => k F G1 H1 σ e1 i1 R1 _ (p1.bind fz_h fun w b e2 G2 H2 i2 s2 R2 r2 p2 =>
    p2 [v, w] G2 H2 H2 i2 .refl ⟨⟨v, w, rfl, r.mono s2 r1.1, r2.1⟩, rfl⟩ R2))
theorem x_p3 {t u x : TE} {r : Rep α} {s : Rep β} {r3 : Rep γ} {m : ε → Rs ε α} {n : ε → Rs ε β} {o : ε → Rs ε γ} (h : EX M R t (fz r) m) (k : EX M R u (fz s) n) (j : EX M R x (fz r3) o) : EX M R (tCons t (tCons u (tCons x tNil))) (fz (aP3 r s r3)) (mPair m (mPair n o)) := fun F G H σ e i hR Q p =>
  h F G H σ e i hR _ (p.bind fz_h fun v a e1 G1 H1 i1 s1 R1 r1 p1 => k F G1 H1 σ e1 i1 R1 _ (by
    unfold mPair at p1
    cases hn : n e1 with
    | bad => rw [hn] at p1; exact p1.elim
    | ex c e' => rw [hn] at p1; exact p1
    | ok b e2 =>
      rw [hn] at p1
      rintro w G2 H2 H2' i2 s2 ⟨r2, rfl⟩ R2
      refine j F G2 _ σ e2 i2 R2 _ ?_
      replace p1 := Post.up p1 s2
      revert p1
      simp only [Rs.bind_ok]
      cases o e2 with
      | bad => exact id
      | ex c e' => exact id
      | ok c e3 =>
        rintro p1 y G3 H3 H3' i3 s3 ⟨r3', rfl⟩ R3
        exact p1 [v, w, y] G3 _ _ i3 s3 ⟨⟨v, w, y, rfl, r.mono (s2.trans s3) r1.1, s.mono s3 r2, r3'⟩, rfl⟩ R3))
def nwL : List V → Hp → VK → Prop := fun xs H1 Q => xs.length ≤ sizeLine ∧ ∀ p, H1 p = none → Q (.ref p) (upd H1 p (.lst xs))
def nwT : List V → Hp → VK → Prop := fun xs H1 Q => xs.length ≤ sizeLine ∧ ∀ p, H1 p = none → Q (.ref p) (upd H1 p (.tup xs))
theorem v_lst {K : PySem.W.Frag} {r : Rep α} : VF K nwL (ir (aLs r)) (oL r) szOk := fun G H v a b Q s hr hg k => by
  obtain ⟨hz, rfl⟩ := szOk_some hg
  have hl := A2.length (show A2 (r.rel K G) v b from hr)
  exact ⟨by rw [hl, sizeLine_eq]; omega, fun p hp => k p _ G _ (.own s hp) hp (s.no hp) upd_same ⟨v, rfl, hr⟩⟩
theorem v_tup {K : PySem.W.Frag} {r : Rep α} : VR K nwT (ir (aLs r)) (rT r) szOk := fun G H v a b Q s hr hg k => by
  obtain ⟨hz, rfl⟩ := szOk_some hg
  have hl := A2.length (show A2 (r.rel K G) v b from hr)
  exact ⟨by rw [hl, sizeLine_eq]; omega, fun p hp => k (.ref p) _ _ (.new s hp) ⟨p, _, rfl, upd_same, v, rfl, (show A2 (r.rel K G) v b from hr).mono fun _ _ => r.mono (sub_upd (s.no hp))⟩⟩
theorem v_tup2 {K : PySem.W.Frag} {r : Rep α} {r' : Rep β} : VR K nwT (ir (aP2 r r')) (rT2 r r') some := fun G H v a b Q s hr hg k => by
  cases hg
  obtain ⟨x, y, rfl, h1, h2⟩ := hr
  exact ⟨by rw [sizeLine_eq]; simp only [List.length_cons, List.length_nil]; omega, fun p hp => k (.ref p) _ _ (.new s hp) ⟨p, _, rfl, upd_same, x, y, rfl, r.mono (sub_upd (s.no hp)) h1, r'.mono (sub_upd (s.no hp)) h2⟩⟩
theorem v_lst3 {K : PySem.W.Frag} {r : Rep α} {r' : Rep β} {r'' : Rep γ} : VF K nwL (ir (aP3 r r' r'')) (oL3 r r' r'') some := fun G H v a b Q s hr hg k => by
  cases hg
  obtain ⟨x, y, z, rfl, h1, h2, h3⟩ := hr
  exact ⟨by rw [sizeLine_eq]; simp only [List.length_cons, List.length_nil]; omega, fun p hp => k p _ G _ (.own s hp) hp (s.no hp) upd_same ⟨x, y, z, rfl, h1, h2, h3⟩⟩
theorem x_lst {t : TA} {r : Rep α} {m : ε → Rs ε (List α)} (h : EX M R t (fz (aLs r)) m) : EX M R (tLst t) (fs (oL r)) (mUn szOk m) := x_unF (t := t) (T := nwL) v_lst h
theorem x_tup {t : TA} {r : Rep α} {m : ε → Rs ε (List α)} (h : EX M R t (fz (aLs r)) m) : EX M R (tTup t) (fz (rT r)) (mUn szOk m) := x_un (t := t) (T := nwT) v_tup h
theorem x_tup2 {t : TA} {r : Rep α} {r' : Rep β} {m : ε → Rs ε (α × β)} (h : EX M R t (fz (aP2 r r')) m) : EX M R (tTup t) (fz (rT2 r r')) (mUn some m) := x_un (t := t) (T := nwT) v_tup2 h
theorem x_lst3 {t : TA} {r : Rep α} {r' : Rep β} {r'' : Rep γ} {m : ε → Rs ε (α × β × γ)} (h : EX M R t (fz (aP3 r r' r'')) m) : EX M R (tLst t) (fs (oL3 r r' r'')) (mUn some m) := x_unF (t := t) (T := nwL) v_lst3 h
def PostS (M : Mx) (R : ERep ε) (rr : RS V ρ) (F : Frm) (G : Hp) (D : Ends) : So ε ρ → Prop
  | .nx e' => ∀ σ' G' H', IV F G' H' → Sub G G' → R.rel M.K F G' H' σ' e' → D.nx σ' H'
  | .bk e' => ∀ σ' G' H', IV F G' H' → Sub G G' → R.rel M.K F G' H' σ' e' → D.bk σ' H'
  | .ct e' => ∀ σ' G' H', IV F G' H' → Sub G G' → R.rel M.K F G' H' σ' e' → D.ct σ' H'
  | .rt a e' => ∀ v σ' G' H' H1, IV F G' H' → Sub G G' → rr.rel M.K F G' H' v a H1 → R.rel M.K F G' H1 σ' e' → D.rt v H'
  | .ex c e' => ∀ cls d σ' G' H', IV F G' H' → Sub G G' → R.rel M.K F G' H' σ' e' → xr M G' c cls d → M.E cls d H'
  | .bad => False
def SX (M : Mx) (R : ERep ε) (rr : RS V ρ) (t : TS) (m : ε → So ε ρ) : Prop := ∀ F G H σ e, IV F G H → R.rel M.K F G H σ e → ∀ D, PostS M R rr F G D (m e) → t D σ H
variable {rr : RS V ρ} {D D' : Ends}
theorem PostS.up {x : So ε ρ} (h : PostS M R rr F G D x) (s : Sub G G1) : PostS M R rr F G1 D x := by
  cases x with
  | nx e => exact fun σ' G' H' i z => h σ' G' H' i (s.trans z)
  | bk e => exact fun σ' G' H' i z => h σ' G' H' i (s.trans z)
  | ct e => exact fun σ' G' H' i z => h σ' G' H' i (s.trans z)
  | rt a e => exact fun v σ' G' H' H1 i z => h v σ' G' H' H1 i (s.trans z)
  | ex c e => exact fun cls d σ' G' H' i z => h cls d σ' G' H' i (s.trans z)
  | bad => exact h
/-- an expression, then what is done with it -/
theorem PostS.so {rs : RS ν α} {Q : ν → Hp → Prop} {x : Rs ε α} {f : α → ε → So ε ρ} (h : PostS M R rr F G D (x.so f))
    (k : ∀ v a e1 G1 H1 H1', IV F G1 H1 → Sub G G1 → rs.rel M.K F G1 H1 v a H1' → R.rel M.K F G1 H1' σ e1 → PostS M R rr F G1 D (f a e1) → Q v H1) : Post M R F G σ rs Q x := by
  cases x with
  | ok a e => exact fun v G' H' H1 i s hr hR => k v a e G' H' H1 i s hr hR (PostS.up h s)
  | ex c e => exact fun cls d G' H' i s hR hx => h cls d σ G' H' i s hR hx
  | bad => exact h
def mSeq (m n : ε → So ε ρ) : ε → So ε ρ := fun e => match m e with
  | .nx e1 => n e1 | .rt a e1 => .rt a e1 | .bk e1 => .bk e1 | .ct e1 => .ct e1 | .ex c e1 => .ex c e1 | .bad => .bad
def mNext : ε → So ε ρ := .nx
def mBrk : ε → So ε ρ := .bk
def mCt : ε → So ε ρ := .ct
def mRet (m : ε → Rs ε ρ) : ε → So ε ρ := fun e => (m e).so .rt
def mDrop (m : ε → Rs ε α) : ε → So ε ρ := fun e => (m e).so fun _ e1 => .nx e1
def mIfS (c : ε → Rs ε Bool) (m n : ε → So ε ρ) : ε → So ε ρ := fun e => (c e).so fun b e1 => if b = true then m e1 else n e1
/-- names that are done with -/
def mKill (k : ε → ε) (m : ε → So ε ρ) : ε → So ε ρ := fun e => match m e with
  | .nx e1 => .nx (k e1) | .rt a e1 => .rt a e1 | .bk e1 => .bk (k e1) | .ct e1 => .ct (k e1) | .ex c e1 => .ex c e1 | .bad => .bad
structure Kl (R : ERep ε) (k : ε → ε) : Prop where
  kl : ∀ {K F G H σ e}, R.rel K F G H σ e → R.rel K F G H σ (k e)
theorem Kl.fr {n : Nat} {r : Rep α} {l : Ln ε α} (a : FrAt R n r l) : Kl R (l.put none) := ⟨a.kl⟩
theorem Kl.and {k k' : ε → ε} (a : Kl R k) (b : Kl R k') : Kl R (fun e => k (k' e)) := ⟨fun h => a.kl (b.kl h)⟩
theorem s_kill {t : TS} {m : ε → So ε ρ} {k : ε → ε} (a : Kl R k) (h : SX M R rr t m) : SX M R rr t (mKill k m) := fun F G H σ e i hR D p => by
  refine h F G H σ e i hR D ?_
  unfold mKill at p
  revert p
  cases m e with
  | nx e1 => exact fun p σ' G' H' i1 s1 R1 => p σ' G' H' i1 s1 (a.kl R1)
  | bk e1 => exact fun p σ' G' H' i1 s1 R1 => p σ' G' H' i1 s1 (a.kl R1)
  | ct e1 => exact fun p σ' G' H' i1 s1 R1 => p σ' G' H' i1 s1 (a.kl R1)
  | rt a e1 => exact id
  | ex c e1 => exact id
  | bad => exact id
theorem s_seq {t u : TS} {m n : ε → So ε ρ} (h : SX M R rr t m) (k : SX M R rr u n) : SX M R rr (tSeq t u) (mSeq m n) := fun F G H σ e i hR D p => by
  refine h F G H σ e i hR _ ?_
  unfold mSeq at p
  revert p
  cases m e with
  | nx e1 => exact fun p σ' G' H' i1 s1 R1 => k F G' H' σ' e1 i1 R1 D (p.up s1)
  | bk e1 => exact id
  | ct e1 => exact id
  | rt a e1 => exact id
  | ex c e1 => exact id
  | bad => exact id
theorem s_cut {t u : TS} {m n : ε → So ε ρ} (h : SX M R rr t m) (k : SX M R rr u n) : SX M R rr (tCut t u) (mSeq m n) := fun F G H σ e i hR D p => by
  refine ⟨fun σ' H' => u D σ' H', ?_, fun _ _ h => h⟩
  exact s_seq h k F G H σ e i hR D p
def mCut (m n : ε → So ε ρ) : ε → So ε ρ := mSeq m n
theorem s_cutC {t u : TS} {m n : ε → So ε ρ} (h : SX M R rr t m) (k : SX M R rr u n) : SX M R rr (tCut t u) (mCut m n) := s_cut h k
theorem s_seqC {t u : TS} {m n : ε → So ε ρ} (h : SX M R rr t m) (k : SX M R rr u n) : SX M R rr (tSeq t u) (mCut m n) := s_seq h k
theorem s_next : SX M R rr tNext mNext := fun F G H σ e i hR D p => p σ G H i .refl hR
theorem s_ret {t : TE} {m : ε → Rs ε ρ} (h : EX M R t rr m) : SX M R rr (tRet t) (mRet m) := fun F G H σ e i hR D p =>
  h F G H σ e i hR _ (p.so fun v a e1 G1 H1 H1' i1 s1 hr R1 p1 => p1 v σ G1 H1 H1' i1 .refl hr R1)
theorem s_drop {t : TE} {r : Rep α} {m : ε → Rs ε α} (h : EX M R t (fz r) m) : SX M R rr (tDrop t) (mDrop m) := fun F G H σ e i hR D p =>
  h F G H σ e i hR _ (p.so fun v a e1 G1 H1 H1' i1 s1 hr R1 p1 => p1 σ G1 H1 i1 .refl (hr.2 ▸ R1))
theorem s_if {c : TT} {t u : TS} {mc : ε → Rs ε Bool} {m n : ε → So ε ρ} (hc : EX M R c (fz bR) mc) (h : SX M R rr t m) (k : SX M R rr u n) : SX M R rr (tIfS c t u) (mIfS mc m n) := fun F G H σ e i hR D p =>
  hc F G H σ e i hR _ (p.so fun v a e1 G1 H1 H1' i1 s1 hr R1 p1 => by
    have e : v = a := hr.1
    subst e
    rw [hr.2] at R1
    cases v with
    | true => exact h F G1 H1 σ e1 i1 R1 D p1
    | false => exact k F G1 H1 σ e1 i1 R1 D p1)
def mIfB (c : ε → Rs ε Bool) (m n : ε → So ε ρ) : ε → So ε ρ := mIfS c m n
theorem s_ifB {c : TT} {t u : TS} {mc : ε → Rs ε Bool} {m n : ε → So ε ρ} (hc : EX M R c (fz bR) mc) (h : SX M R rr t m) (k : SX M R rr u n) : SX M R rr (tIfS c t u) (mIfB mc m n) := s_if hc h k
def mAsg (m : ε → Rs ε α) (pt : α → ε → Rs ε Unit) : ε → So ε ρ := fun e => (m e).so fun a e1 => (pt a e1).so fun _ e2 => .nx e2
/-- x = e, frozen; x = e, an own new object -/
def mSet (l : Ln ε α) (m : ε → Rs ε α) : ε → So ε ρ := fun e => (m e).so fun a e1 => .nx (l.put (some a) e1)
theorem s_set {n : Nat} {t : TE} {r : Rep α} {l : Ln ε α} {m : ε → Rs ε α} (at' : FrAt R n r l) (h : EX M R t (fz r) m) : SX M R rr (tAsg t (gName n)) (mSet l m) := fun F G H σ e i hR D p =>
  h F G H σ e i hR _ (p.so fun v a e1 G1 H1 H1' i1 s1 hr R1 p1 => p1 _ G1 H1 i1 .refl (at'.wr (hr.2 ▸ R1) hr.1))
theorem s_setO {n : Nat} {t : TE} {q : ORep α} {l : Ln ε α} {m : ε → Rs ε α} (at' : OwAt R n ownN q l) (h : EX M R t (fs q) m) : SX M R rr (tAsg t (gName n)) (mSet l m) := fun F G H σ e i hR D p =>
  h F G H σ e i hR _ (p.so fun v a e1 G1 H1 H1' i1 s1 hr R1 p1 => by
    obtain ⟨L, ho, rfl, h1, h2, h3, h4, rfl⟩ := hr
    exact p1 _ G1 H1 i1 .refl (at'.wr R1 h1 h2 h3 h4))
end
section
variable {ν ν' α β γ ε ρ : Type} {M : Mx} {R : ERep ε} {F : Frm} {G G1 H : Hp} {σ : Sg} {rr : RS V ρ} {D : Ends}
section
variable {ta tb : TE} {r : Rep α} {i1 : IR V α} {i2 : IR V β} {r' : Rep γ} {q' : ORep γ} {g : α → β → Option γ} {m : ε → Rs ε α} {n : ε → Rs ε β} {T : R2}
theorem x_tOp (vr : VR2 M.K T i1 i2 r' g) (cv : Cv r i1) (h : EX M R ta (fz r) m) (k : EX M R tb (is i2) n) : EX M R (tOp T ta tb) (fz r') (mOp g m n) := x_op (t := ta) (u := tb) (T := T) vr cv h k
theorem x_tOpF (vr : VF2 M.K T i1 i2 q' g) (cv : Cv r i1) (h : EX M R ta (fz r) m) (k : EX M R tb (is i2) n) : EX M R (tOp T ta tb) (fs q') (mOp g m n) := x_opF (t := ta) (u := tb) (T := T) vr cv h k
theorem x_tOpL {k : Nat} {l : Ln ε α} {q : ORep α} (vr : VR2 M.K T (rd q) i2 r' g) (at' : Late R k q l) (h : EX M R tb (is i2) n) : EX M R (tOp T (tVar k) tb) (fz r') (mOpL g l n) := x_opL (u := tb) (T := T) vr at' h
theorem x_tOpLF {k : Nat} {l : Ln ε α} {q : ORep α} (vr : VF2 M.K T (rd q) i2 q' g) (at' : Late R k q l) (h : EX M R tb (is i2) n) : EX M R (tOp T (tVar k) tb) (fs q') (mOpL g l n) := x_opLF (u := tb) (T := T) vr at' h
end
theorem x_tCB {t : TA} {T : List V → Hp → VK → Prop} {i1 : IR (List V) α} {r' : Rep β} {g : α → Option β} {m : ε → Rs ε α} (vr : VR M.K T i1 r' g) (h : EX M R t (is i1) m) : EX M R (tCB T t) (fz r') (mUn g m) := x_un (t := t) (T := T) vr h
theorem x_tCBF {t : TA} {T : List V → Hp → VK → Prop} {i1 : IR (List V) α} {q' : ORep β} {g : α → Option β} {m : ε → Rs ε α} (vr : VF M.K T i1 q' g) (h : EX M R t (is i1) m) : EX M R (tCB T t) (fs q') (mUn g m) := x_unF (t := t) (T := T) vr h
def mPart (m : ε → Rs ε Int) : ε → Rs ε (Option Int) := fun e => (m e).bind fun a e1 => .ok (some a) e1
theorem x_noPart : EX M R tNoPart (fz ioR) (mC none) := fun F G H σ e i hR Q p => p none G H H i .refl ⟨rfl, rfl⟩ hR
theorem x_part {t : TE} {m : ε → Rs ε Int} (h : EX M R t (fz rI) m) : EX M R (tPart t) (fz ioR) (mPart m) := fun F G H σ e i hR Q p =>
  h F G H σ e i hR _ (p.bind fz_h fun v a e1 G1 H1 i1 s1 R1 r1 p1 => ⟨a, r1.1, p1 (some a) G1 H1 H1 i1 .refl ⟨rfl, rfl⟩ R1⟩)
def mSl (g : α → Option Int → Option Int → Option β) (m : ε → Rs ε α) (lo hi : ε → Rs ε (Option Int)) : ε → Rs ε β := fun e => (m e).bind fun a e1 => (lo e1).bind fun l e2 => (hi e2).bind fun u e3 => .of (g a l u) e3
/-- a slice, frozen or new -/
def VSl (K : PySem.W.Frag) (T : V → Option Int → Option Int → Hp → VK → Prop) (i : IR V α) (r' : Rep β) (g : α → Option Int → Option Int → Option β) : Prop := ∀ l u, VR K (fun x H Q => T x l u H Q) i r' fun a => g a l u
def VSlF (K : PySem.W.Frag) (T : V → Option Int → Option Int → Hp → VK → Prop) (i : IR V α) (q' : ORep β) (g : α → Option Int → Option Int → Option β) : Prop := ∀ l u, VF K (fun x H Q => T x l u H Q) i q' fun a => g a l u
theorem x_sl {T : V → Option Int → Option Int → Hp → VK → Prop} {t : TE} {tl th : TO} {r : Rep α} {i' : IR V α} {r' : Rep β} {g : α → Option Int → Option Int → Option β} {m : ε → Rs ε α} {lo hi : ε → Rs ε (Option Int)}
    (vr : VSl M.K T i' r' g) (cv : Cv r i') (h : EX M R t (fz r) m) (hl : EX M R tl (fz ioR) lo) (hh : EX M R th (fz ioR) hi) : EX M R (tSl T t tl th) (fz r') (mSl g m lo hi) := fun F G H σ e i hR Q p =>
  h F G H σ e i hR _ (p.bind fz_h fun v a e1 G1 H1 i1 s1 R1 r1 p1 => hl F G1 H1 σ e1 i1 R1 _ (p1.bind fz_h fun l' l e2 G2 H2 i2 s2 R2 r2 p2 => hh F G2 H2 σ e2 i2 R2 _ (p2.bind fz_h fun u' u e3 G3 H3 i3 s3 R3 r3 p3 => by
    obtain rfl : l' = l := r2.1
    obtain rfl : u' = u := r3.1
    obtain ⟨b, hb, p4⟩ := of_some p3
    exact vr l' u' G3 H3 v a b Q i3.gh (cv _ _ _ _ _ i3.gh (r.mono (s2.trans s3) r1.1)) hb (p4.fin i3 R3))))
theorem x_slF {T : V → Option Int → Option Int → Hp → VK → Prop} {t : TE} {tl th : TO} {r : Rep α} {i' : IR V α} {q' : ORep β} {g : α → Option Int → Option Int → Option β} {m : ε → Rs ε α} {lo hi : ε → Rs ε (Option Int)}
    (vr : VSlF M.K T i' q' g) (cv : Cv r i') (h : EX M R t (fz r) m) (hl : EX M R tl (fz ioR) lo) (hh : EX M R th (fz ioR) hi) : EX M R (tSl T t tl th) (fs q') (mSl g m lo hi) := fun F G H σ e i hR Q p =>
  h F G H σ e i hR _ (p.bind fz_h fun v a e1 G1 H1 i1 s1 R1 r1 p1 => hl F G1 H1 σ e1 i1 R1 _ (p1.bind fz_h fun l' l e2 G2 H2 i2 s2 R2 r2 p2 => hh F G2 H2 σ e2 i2 R2 _ (p2.bind fz_h fun u' u e3 G3 H3 i3 s3 R3 r3 p3 => by
    obtain rfl : l' = l := r2.1
    obtain rfl : u' = u := r3.1
    obtain ⟨b, hb, p4⟩ := of_some p3
    exact vr l' u' G3 H3 v a b Q i3.gh (cv _ _ _ _ _ i3.gh (r.mono (s2.trans s3) r1.1)) hb (p4.finF i3 R3))))
/-- the slice of a name's object -/
def mSlL (g : α → Option Int → Option Int → Option β) (l : Ln ε α) (lo hi : ε → Rs ε (Option Int)) : ε → Rs ε β := fun e => match l.get e with
  | none => .bad
  | some _ => (lo e).bind fun l1 e2 => (hi e2).bind fun u e3 => (mVar l e3).bind fun a e4 => .of (g a l1 u) e4
theorem x_slLF {n : Nat} {ln : Ln ε α} {q : ORep α} {T : V → Option Int → Option Int → Hp → VK → Prop} {tl th : TO} {q' : ORep β} {g : α → Option Int → Option Int → Option β} {lo hi : ε → Rs ε (Option Int)}
    (vr : VSlF M.K T (rd q) q' g) (at' : Late R n q ln) (hl : EX M R tl (fz ioR) lo) (hh : EX M R th (fz ioR) hi) : EX M R (tSl T (tVar n) tl th) (fs q') (mSlL g ln lo hi) := fun F G H σ e i hR Q p => by
  unfold mSlL at p
  cases h0 : ln.get e with
  | none => rw [h0] at p; exact p.elim
  | some a0 =>
    rw [h0] at p
    obtain ⟨L0, ho0, h1, _⟩ := at'.rd i hR h0
    refine ⟨_, h1, hl F G H σ e i hR _ (p.bind fz_h fun l' l e2 G2 H2 i2 s2 R2 r2 p2 => hh F G2 H2 σ e2 i2 R2 _ (p2.bind fz_h fun u' u e3 G3 H3 i3 s3 R3 r3 p3 => ?_))⟩
    obtain rfl : l' = l := r2.1
    obtain rfl : u' = u := r3.1
    unfold mVar at p3
    cases h2 : ln.get e3 with
    | none => rw [h2] at p3; exact p3.elim
    | some a1 =>
      rw [h2] at p3
      obtain ⟨L, ho, h3, h4, h5⟩ := at'.rd i3 R3 h2
      rw [h1] at h3
      cases h3
      obtain ⟨c, hc, p4⟩ := of_some p3
      exact vr l' u' G3 H3 _ a1 c Q i3.gh ⟨_, ho, rfl, h4, h5⟩ hc (p4.finF i3 R3)
theorem wipe_out (x : Option V) (n : Nat) : ∀ (σ : Sg) (vs : List Nat), wipe (σ.set n x) vs = if n ∈ vs then wipe σ vs else (wipe σ vs).set n x
  | σ, [] => by simp [wipe]
  | σ, v :: vs => by
    unfold wipe
    rw [wipe_out x n σ vs]
    by_cases h : n ∈ vs
    · simp [h]
    · by_cases e : n = v
      · subst e
        simp [h, List.set_set]
      · rw [if_neg h, if_neg (by simp [e, h])]
        exact List.set_comm _ _ e
theorem wipe_in {x : Option V} {n : Nat} {σ : Sg} {vs : List Nat} (h : n ∈ vs) : wipe (σ.set n x) vs = wipe σ vs := by rw [wipe_out, if_pos h]
def TGN (M : Mx) (R : ERep ε) (g : TG) (r : Rep α) (vs : List Nat) (pt : α → ε → ε) : Prop := ∀ F G H σ e v a, IV F G H → R.rel M.K F G H σ e → r.rel M.K G v a → ∀ Q, (∀ σ', wipe σ' vs = wipe σ vs → R.rel M.K F G H σ' (pt a e) → Q σ' H) → g v σ H Q
def pN (l : Ln ε α) : α → ε → ε := fun a e => l.put (some a) e
theorem n_name {n : Nat} {r : Rep α} {l : Ln ε α} {vs : List Nat} (at' : FrAt R n r l) (hn : n ∈ vs) : TGN M R (gName n) r vs (pN l) := fun F G H σ e v a i hR hr Q k => k _ (wipe_in hn) (at'.wr hR hr)
def p2 (p : α → ε → ε) (p' : β → ε → ε) : α × β → ε → ε := fun ab e => p' ab.2 (p ab.1 e)
def p3 (p : α → ε → ε) (p' : β → ε → ε) (p'' : γ → ε → ε) : α × β × γ → ε → ε := fun ab e => p'' ab.2.2 (p' ab.2.1 (p ab.1 e))
theorem sqt_of {K : PySem.W.Frag} {G H : Hp} {L : Addr} {vs : List V} (s : Sub G H) (h : G L = some (.tup vs)) : SqT K H L vs := .inl (.inl (s _ _ h))
theorem sql_of {K : PySem.W.Frag} {G H : Hp} {L : Addr} {vs : List V} (s : Sub G H) (h : G L = some (.lst vs)) : SqL K H L vs := .inl (.inl (s _ _ h))
theorem n_tup2 {g g' : TG} {r : Rep α} {r' : Rep β} {vs : List Nat} {p : α → ε → ε} {p' : β → ε → ε} (h : TGN M R g r vs p) (h' : TGN M R g' r' vs p') : TGN M R (gTup M.K 2 (gCons g (gCons g' gNil))) (rT2 r r') vs (p2 p p') := fun F G H σ e v a i hR hr Q k => by
  obtain ⟨L, ho, rfl, hg, x, y, rfl, hx, hy⟩ := hr
  refine ⟨L, _, rfl, sqt_of i.gh hg, rfl, x, _, rfl, h F G H σ e x a.1 i hR hx _ fun σ1 w1 R1 => ⟨y, _, rfl, h' F G H σ1 _ y a.2 i R1 hy _ fun σ2 w2 R2 => ⟨rfl, k σ2 (w2.trans w1) R2⟩⟩⟩
/-- a, b = e -/
def mAsgN (m : ε → Rs ε α) (pt : α → ε → ε) : ε → So ε ρ := fun e => (m e).so fun a e1 => .nx (pt a e1)
theorem s_asgN {t : TE} {g : TG} {r : Rep α} {vs : List Nat} {m : ε → Rs ε α} {pt : α → ε → ε} (h : EX M R t (fz r) m) (hg : TGN M R g r vs pt) : SX M R rr (tAsg t g) (mAsgN m pt) := fun F G H σ e i hR D p =>
  h F G H σ e i hR _ (p.so fun v a e1 G1 H1 H1' i1 s1 hr R1 p1 => by
    rw [hr.2] at R1
    exact hg F G1 H1 σ e1 v a i1 R1 hr.1 _ fun σ' _ R2 => p1 σ' G1 H1 i1 .refl R2)
structure Wp (R : ERep ε) (vs : List Nat) (kill : ε → ε) (rst : ε → ε → ε) : Prop where
  kl : ∀ {K F G H σ e}, R.rel K F G H σ e → R.rel K F G H (wipe σ vs) (kill e)
  rs : ∀ {K F G H G' H' σ e e'}, R.rel K F G H σ e → Sub G G' → R.rel K F G' H' (wipe σ vs) e' → R.rel K F G' H' σ (rst e e')
theorem Wp.nil : Wp R [] id (fun _ e' => e') := ⟨fun h => h, fun _ _ h => h⟩
theorem Wp.cons {n : Nat} {r : Rep α} {l : Ln ε α} {vs : List Nat} {kill : ε → ε} {rst : ε → ε → ε} (at' : FrAt R n r l) (w : Wp R vs kill rst) : Wp R (n :: vs) (fun e => l.put none (kill e)) (fun e e' => rst e (l.put (l.get (kill e)) e')) :=
  ⟨fun h => at'.wn (w.kl h), fun h s h' => w.rs h s (at'.rs (w.kl h) s h')⟩
def Walk (K : PySem.W.Frag) (J : It) (F : Frm) (G : Hp) (r : Rep α) (xs : List α) : Prop := ∀ i G' H', IV F G' H' → Sub G G' →
  (xs.length ≤ i → J.stop i H') ∧ ∀ x, xs[i]? = some x → J.go i H' ∧ ∀ v H'', J.yld i H' v H'' → ∃ G'', Stp G' H' G'' H'' ∧ r.rel K G'' v x
def walkS (r : Rep α) : RS It (List α) := ⟨fun K F G H J xs H1 => Walk K J F G r xs ∧ H1 = H⟩
theorem x_iL {t : TE} {r : Rep α} {m : ε → Rs ε (List α)} (h : EX M R t (fz (rL r)) m) : EX M R (iList M.K t) (walkS r) m := fun F G H σ e i hR Q p => by
  refine h F G H σ e i hR _ ?_
  revert p
  cases m e with
  | ok a e' =>
    rintro p v G' H' H1 i1 s1 ⟨⟨L, ho, rfl, hg, vs, rfl, ha⟩, rfl⟩ R1
    refine ⟨L, rfl, ⟨vs, sql_of i1.gh hg⟩, p _ G' _ _ i1 s1 ⟨fun k G2 H2 i2 s2 => ?_, rfl⟩ R1⟩
    have q : SqL M.K H2 L vs := sql_of i2.gh (s2 _ _ hg)
    refine ⟨fun hk => ⟨vs, q, by rw [ha.length]; exact hk⟩, fun x hx => ?_⟩
    obtain ⟨v, hv, hr⟩ := ha.get hx
    refine ⟨⟨vs, v, q, hv⟩, fun v' H'' hy => ?_⟩
    obtain ⟨rfl, hy⟩ := hy
    have := hy vs q
    rw [hv] at this
    cases this
    exact ⟨G2, .refl i2.gh, r.mono s2 hr⟩
  | ex c e' => exact id
  | bad => exact id
theorem x_iT {t : TE} {r : Rep α} {m : ε → Rs ε (List α)} (h : EX M R t (fz (rT r)) m) : EX M R (iTup M.K t) (walkS r) m := fun F G H σ e i hR Q p => by
  refine h F G H σ e i hR _ ?_
  revert p
  cases m e with
  | ok a e' =>
    rintro p v G' H' H1 i1 s1 ⟨⟨L, ho, rfl, hg, vs, rfl, ha⟩, rfl⟩ R1
    refine ⟨L, rfl, ⟨vs, sqt_of i1.gh hg⟩, p _ G' _ _ i1 s1 ⟨fun k G2 H2 i2 s2 => ?_, rfl⟩ R1⟩
    have q : SqT M.K H2 L vs := sqt_of i2.gh (s2 _ _ hg)
    refine ⟨fun hk => ⟨vs, q, by rw [ha.length]; exact hk⟩, fun x hx => ?_⟩
    obtain ⟨v, hv, hr⟩ := ha.get hx
    refine ⟨⟨vs, v, q, hv⟩, fun v' H'' hy => ?_⟩
    obtain ⟨rfl, hy⟩ := hy
    have := hy vs q
    rw [hv] at this
    cases this
    exact ⟨G2, .refl i2.gh, r.mono s2 hr⟩
  | ex c e' => exact id
  | bad => exact id
/-- a borrowed list -/
theorem x_iLB {n : Nat} {l : Ln ε (List α)} {r : Rep α} (at' : BoAt R n (oL r) l) : EX M R (iList M.K (tVar n)) (walkS r) (mVar l) := fun F G H σ e i hR Q p => by
  obtain ⟨a, ha, p2⟩ := of_some p
  obtain ⟨L, ho, h1, h2, h3, vs, rfl, h5⟩ := at'.rd hR ha
  have q : ∀ {G2 H2 : Hp}, IV F G2 H2 → SqL M.K H2 L vs := fun i2 => .inl (.inl (i2.fr _ _ h3 h2))
  refine ⟨.ref L, h1, L, rfl, ⟨vs, q i⟩, p2 _ G H H i .refl ⟨fun k G2 H2 i2 s2 => ?_, rfl⟩ hR⟩
  refine ⟨fun hk => ⟨vs, q i2, by rw [h5.length]; exact hk⟩, fun x hx => ?_⟩
  obtain ⟨v, hv, hr⟩ := h5.get hx
  refine ⟨⟨vs, v, q i2, hv⟩, fun v' H'' hy => ?_⟩
  obtain ⟨rfl, hy⟩ := hy
  have := hy vs (q i2)
  rw [hv] at this
  cases this
  exact ⟨G2, .refl i2.gh, r.mono s2 hr⟩
/-- a range's numbers -/
def rng (lo hi : Int) : List Int := (List.range (hi - lo).toNat).map fun (k : Nat) => lo + (k : Int)
theorem rng_length {lo hi : Int} : (rng lo hi).length = (hi - lo).toNat := by simp [rng]
theorem rng_get {lo hi : Int} {i : Nat} {x : Int} (h : (rng lo hi)[i]? = some x) : i < (hi - lo).toNat ∧ x = lo + i := by
  unfold rng at h
  rw [List.getElem?_map] at h
  cases z : (List.range (hi - lo).toNat)[i]? with
  | none => rw [z] at h; cases h
  | some k =>
    rw [z] at h
    obtain ⟨h1, h2⟩ := List.getElem?_eq_some_iff.mp z
    rw [List.length_range] at h1
    rw [List.getElem_range] at h2
    cases h
    exact ⟨h1, by rw [← h2]⟩
theorem walk_rng {K : PySem.W.Frag} {lo hi : Int} : Walk K (Itr lo (hi - lo).toNat) F G rI (rng lo hi) := fun i G' H' iv s => by
  refine ⟨fun h => by rw [rng_length] at h; exact h, fun x hx => ?_⟩
  obtain ⟨h1, h2⟩ := rng_get hx
  refine ⟨h1, fun v H'' hy => ?_⟩
  obtain ⟨rfl, hy⟩ := hy
  exact ⟨G', .refl iv.gh, by rw [hy, h2]; rfl⟩
def bigI (i : Int) : Bool := decide (-(2 ^ 62) ≤ i) && decide (i < 2 ^ 62)
def mRng1 (m : ε → Rs ε Int) : ε → Rs ε (List Int) := fun e => (m e).bind fun n e1 => if bigI n = true then .ok (rng 0 n) e1 else .bad
theorem x_rng1 {t : TA} {m : ε → Rs ε Int} (h : EX M R t (is (aOne (ir rI))) m) : EX M R (iRng1 t) (walkS rI) (mRng1 m) := fun F G H σ e i hR Q p =>
  h F G H σ e i hR _ (p.bind is_h fun vs n e1 G1 H1 i1 s1 R1 r1 p1 => by
    obtain ⟨⟨v, rfl, rfl⟩, _⟩ := r1
    by_cases hb : bigI n = true
    · rw [if_pos hb] at p1
      have hb' := hb
      simp only [bigI, Bool.and_eq_true, decide_eq_true_eq] at hb'
      refine ⟨n, rfl, hb'.1, hb'.2, p1 _ G1 H1 H1 i1 .refl ⟨?_, rfl⟩ R1⟩
      have := walk_rng (F := F) (G := G1) (K := M.K) (lo := 0) (hi := n)
      rw [Int.sub_zero] at this
      exact this
    · rw [if_neg hb] at p1
      exact p1.elim)
def mRng2 (m : ε → Rs ε (Int × Int)) : ε → Rs ε (List Int) := fun e => (m e).bind fun n e1 => if bigI n.1 = true ∧ bigI n.2 = true then .ok (rng n.1 n.2) e1 else .bad
theorem x_rng2 {t : TA} {m : ε → Rs ε (Int × Int)} (h : EX M R t (is (aCons (ir rI) (aOne (ir rI)))) m) : EX M R (iRng2 t) (walkS rI) (mRng2 m) := fun F G H σ e i hR Q p =>
  h F G H σ e i hR _ (p.bind is_h fun vs n e1 G1 H1 i1 s1 R1 r1 p1 => by
    obtain ⟨⟨v, ws, rfl, hv, w, rfl, hw⟩, _⟩ := r1
    by_cases hb : bigI n.1 = true ∧ bigI n.2 = true
    · rw [if_pos hb] at p1
      have hb' := hb
      simp only [bigI, Bool.and_eq_true, decide_eq_true_eq] at hb'
      exact ⟨n.1, n.2, by rw [show v = .int n.1 from hv, show w = .int n.2 from hw], ⟨hb'.1.1, hb'.1.2, hb'.2.1, hb'.2.2⟩, p1 _ G1 H1 H1 i1 .refl ⟨walk_rng, rfl⟩ R1⟩
    · rw [if_neg hb] at p1
      exact p1.elim)
/-- numbered -/
def enumF (xs : List α) : List (Int × α) := xs.zipIdx.map fun p => ((p.2 : Int), p.1)
def mEnum (m : ε → Rs ε (List α)) : ε → Rs ε (List (Int × α)) := fun e => (m e).bind fun xs e1 => .ok (enumF xs) e1
def mLoop (b : α → ε → So ε ρ) : List α → ε → So ε ρ
  | [], e => .nx e
  | x :: xs, e => match b x e with
    | .nx e1 => mLoop b xs e1 | .ct e1 => mLoop b xs e1 | .bk e1 => .nx e1 | .rt a e1 => .rt a e1 | .ex c e1 => .ex c e1 | .bad => .bad
def mFor (m : ε → Rs ε (List α)) (pt : α → ε → ε) (b : ε → So ε ρ) : ε → So ε ρ := fun e => (m e).so fun xs e1 => mLoop (fun x e => b (pt x e)) xs e1
theorem s_for {wi : TI} {g : TG} {tb : TS} {r : Rep α} {vs : List Nat} {m : ε → Rs ε (List α)} {pt : α → ε → ε} {b : ε → So ε ρ} (h : EX M R wi (walkS r) m) (hg : TGN M R g r vs pt) (hb : SX M R rr tb b) : SX M R rr (tFor wi g tb) (mFor m pt b) := fun F G H σ e i hR D p =>
  h F G H σ e i hR _ (p.so fun J xs e1 G1 H1 H1' i1 s1 hr R1 p1 => by
    rw [hr.2] at R1
    refine ⟨fun i m σ' H' => m = xs.length - i ∧ i ≤ xs.length ∧ ∃ G' e', IV F G' H' ∧ Sub G1 G' ∧ R.rel M.K F G' H' σ' e' ∧ PostS M R rr F G' D (mLoop (fun x e => b (pt x e)) (xs.drop i) e'),
      ⟨xs.length, rfl, Nat.zero_le _, G1, e1, i1, .refl, R1, p1⟩, ?_⟩
    rintro k m σ' H' ⟨rfl, hk, G', e', i', s', R', p'⟩
    have hw := hr.1 k G' H' i' s'
    by_cases hlt : k < xs.length
    · rw [List.drop_eq_getElem_cons hlt] at p'
      obtain ⟨h1, h2⟩ := hw.2 xs[k] (List.getElem?_eq_getElem hlt)
      refine .inr ⟨h1, fun σ2 H2 => k + 1 ≤ xs.length ∧ ∃ G' e', IV F G' H2 ∧ Sub G1 G' ∧ R.rel M.K F G' H2 σ2 e' ∧ PostS M R rr F G' D (mLoop (fun x e => b (pt x e)) (xs.drop (k + 1)) e'), fun σ2 H2 hN => ⟨xs.length - (k + 1), by omega, rfl, hN⟩, fun v H'' hy => ?_⟩
      obtain ⟨G2, st, rv⟩ := h2 v H'' hy
      have i2 := i'.step st
      refine hg F G2 H'' σ' e' v _ i2 (R.mono st.g st.h st.n R') rv _ fun σ2 _ R2 => hb F G2 H'' σ2 _ i2 R2 _ ?_
      unfold mLoop at p'
      revert p'
      cases b (pt xs[k] e') with
      | nx e3 => exact fun p' σ3 G3 H3 i3 s3 R3 => ⟨hlt, G3, e3, i3, s'.trans (st.g.trans s3), R3, p'.up (st.g.trans s3)⟩
      | ct e3 => exact fun p' σ3 G3 H3 i3 s3 R3 => ⟨hlt, G3, e3, i3, s'.trans (st.g.trans s3), R3, p'.up (st.g.trans s3)⟩
      | bk e3 => exact fun p' σ3 G3 H3 i3 s3 R3 => p' σ3 G3 H3 i3 (st.g.trans s3) R3
      | rt a e3 => exact fun p' v σ3 G3 H3 H3' i3 s3 => p' v σ3 G3 H3 H3' i3 (st.g.trans s3)
      | ex c e3 => exact fun p' cls d σ3 G3 H3 i3 s3 => p' cls d σ3 G3 H3 i3 (st.g.trans s3)
      | bad => exact id
    · have e0 : xs.drop k = [] := List.drop_eq_nil_of_le (by omega)
      rw [e0] at p'
      exact .inl ⟨hw.1 (by omega), p' σ' G' H' i' .refl R'⟩)
def mWhileN (c : ε → Rs ε Bool) (b : ε → So ε ρ) : Nat → ε → So ε ρ
  | 0, _ => .bad
  | n + 1, e => (c e).so fun v e1 => if v = true then (match b e1 with
    | .nx e2 => mWhileN c b n e2 | .ct e2 => mWhileN c b n e2 | .bk e2 => .nx e2 | .rt a e2 => .rt a e2 | .ex c e2 => .ex c e2 | .bad => .bad) else .nx e1
theorem s_while {tc : TT} {tb : TS} {c : ε → Rs ε Bool} {b : ε → So ε ρ} (fuel : Nat) (hc : EX M R tc (fz bR) c) (hb : SX M R rr tb b) : SX M R rr (tWhile tc tb) (mWhileN c b fuel) := fun F G H σ e i hR D p => by
  refine ⟨fun m σ' H' => ∃ G' e', IV F G' H' ∧ Sub G G' ∧ R.rel M.K F G' H' σ' e' ∧ PostS M R rr F G' D (mWhileN c b m e'), ⟨fuel, G, e, i, .refl, hR, p⟩, ?_⟩
  rintro m σ' H' ⟨G', e', i', s', R', p'⟩
  cases m with
  | zero => exact p'.elim
  | succ m =>
    unfold mWhileN at p'
    refine hc F G' H' σ' e' i' R' _ (p'.so fun v a e1 G1 H1 H1' i1 s1 hr R1 p1 => ?_)
    have ee : v = a := hr.1
    subst ee
    rw [hr.2] at R1
    cases v with
    | false => exact p1 σ' G1 H1 i1 .refl R1
    | true =>
      rw [if_pos rfl] at p1 ⊢
      refine ⟨fun σ2 H2 => ∃ G' e', IV F G' H2 ∧ Sub G G' ∧ R.rel M.K F G' H2 σ2 e' ∧ PostS M R rr F G' D (mWhileN c b m e'), fun σ2 H2 hN => ⟨m, Nat.lt_succ_self m, hN⟩, hb F G1 H1 σ' e1 i1 R1 _ ?_⟩
      revert p1
      cases b e1 with
      | nx e3 => exact fun p' σ3 G3 H3 i3 s3 R3 => ⟨G3, e3, i3, s'.trans (s1.trans s3), R3, p'.up s3⟩
      | ct e3 => exact fun p' σ3 G3 H3 i3 s3 R3 => ⟨G3, e3, i3, s'.trans (s1.trans s3), R3, p'.up s3⟩
      | bk e3 => exact fun p' σ3 G3 H3 i3 s3 R3 => p' σ3 G3 H3 i3 s3 R3
      | rt a e3 => exact id
      | ex c e3 => exact id
      | bad => exact id
/-- what raises nothing -/
def Rs.bindN {ε α β : Type} (x : Rs ε α) (f : α → ε → Rs ε β) : Rs ε β := match x with
  | .ok a e => f a e | .ex _ _ => .bad | .bad => .bad
@[simp] theorem Rs.bindN_ok {ε α β : Type} {a : α} {e : ε} {f : α → ε → Rs ε β} : (Rs.ok a e).bindN f = f a e := rfl
theorem wipe_wipe (σ : Sg) (vs : List Nat) : wipe (wipe σ vs) vs = wipe σ vs := by
  suffices h : ∀ us : List Nat, (∀ u ∈ us, u ∈ vs) → wipe (wipe σ us) vs = wipe σ vs from h vs fun _ h => h
  intro us
  induction us with
  | nil => intro _; rfl
  | cons u us ih =>
    intro h
    show wipe ((wipe σ us).set u none) vs = _
    rw [wipe_in (h u List.mem_cons_self)]
    exact ih fun x hx => h x (List.mem_cons_of_mem _ hx)
def lcR (pt : α → ε → ε) (tt : ε → Rs ε Bool) (te : ε → Rs ε β) (kill : ε → ε) : List α → ε → List β → Rs ε (List β)
  | [], e, acc => .ok acc e
  | x :: xs, e, acc => (tt (pt x e)).bindN fun b e1 => if b = true then (te e1).bindN fun y e2 => lcR pt tt te kill xs (kill e2) (acc ++ [y]) else lcR pt tt te kill xs (kill e1) acc
def mLc (it : ε → Rs ε (List α)) (pt : α → ε → ε) (tt : ε → Rs ε Bool) (te : ε → Rs ε β) (kill : ε → ε) (rst : ε → ε → ε) : ε → Rs ε (List β) := fun e => (it e).bind fun xs e1 => if xs.length ≤ 1000000 then (lcR pt tt te kill xs (kill e1) []).bind fun ys e2 => .ok ys (rst e1 e2) else .bad
def mYes : ε → Rs ε Bool := fun e => .ok true e
theorem x_yes : EX M R tYes (fz bR) mYes := fun F G H σ e i hR Q p => p true G H H i .refl ⟨rfl, rfl⟩ hR
theorem x_lc {wi : TI} {g : TG} {tt : TT} {te : TE} {r : Rep α} {rb : Rep β} {vs : List Nat} {it : ε → Rs ε (List α)} {pt : α → ε → ε} {mt : ε → Rs ε Bool} {me : ε → Rs ε β} {kill : ε → ε} {rst : ε → ε → ε}
    (h : EX M R wi (walkS r) it) (w : Wp R vs kill rst) (hg : TGN M R g r vs pt) (ht : EX M R tt (fz bR) mt) (he : EX M R te (fz rb) me) : EX M R (tLc wi g tt te vs) (fs (oL rb)) (mLc it pt mt me kill rst) := fun F G H σ e i hR Q p =>
  h F G H σ e i hR _ (by
    unfold mLc at p
    revert p
    cases it e with
    | bad => exact id
    | ex c e' => exact id
    | ok xs e1 =>
      intro p J G1 H1 H1' i1 s1 hr R1
      rw [hr.2] at R1
      by_cases hz : xs.length ≤ 1000000
      case neg => rw [Rs.bind_ok, if_neg hz] at p; exact p.elim
      rw [Rs.bind_ok, if_pos hz] at p
      intro L hL
      have xL : F.X L = none := i1.xs.no hL
      have yL : F.Y L = none := i1.ys.no hL
      have oL : F.H0 L = none := by
        cases z : F.H0 L with
        | none => rfl
        | some o => exact absurd hL (i1.al L (by rw [z]; intro z; cases z))
      refine ⟨fun k m H' => m = xs.length - k ∧ k ≤ xs.length ∧ ∃ G' e' av, ∃ ac : List β, IV F G' H' ∧ Sub G1 G' ∧ H' L = some (.lst av) ∧ G' L = none ∧ A2 (rb.rel M.K G') av ac ∧ ac.length ≤ k ∧ R.rel M.K F G' (hide H' L) (wipe σ vs) e' ∧
        Post M R F G σ (fs (Ws.oL rb)) Q ((lcR pt mt me kill (xs.drop k) e' ac).bind fun ys e2 => .ok ys (rst e1 e2)), ⟨xs.length, rfl, Nat.zero_le _, G1, kill e1, [], [], ?_, .refl, upd_same, i1.gh.no hL, .nil, Nat.le_refl _, ?_, p⟩, ?_⟩
      · exact i1.step (.own i1.gh hL)
      · rw [hide_upd, hide_none hL]
        exact w.kl R1
      rintro k m H' ⟨rfl, hk, G', e', av, ac, i', s', hl', gl', ha, hac, R', p'⟩
      have hw := hr.1 k G' H' i' s'
      by_cases hlt : k < xs.length
      · rw [List.drop_eq_getElem_cons hlt] at p'
        obtain ⟨h1, h2⟩ := hw.2 xs[k] (List.getElem?_eq_getElem hlt)
        refine .inr ⟨h1, fun H2 => k + 1 ≤ xs.length ∧ ∃ G' e' av, ∃ ac : List β, IV F G' H2 ∧ Sub G1 G' ∧ H2 L = some (.lst av) ∧ G' L = none ∧ A2 (rb.rel M.K G') av ac ∧ ac.length ≤ k + 1 ∧ R.rel M.K F G' (hide H2 L) (wipe σ vs) e' ∧
          Post M R F G σ (fs (Ws.oL rb)) Q ((lcR pt mt me kill (xs.drop (k + 1)) e' ac).bind fun ys e2 => .ok ys (rst e1 e2)), fun H2 hN => ⟨xs.length - (k + 1), by omega, rfl, hN⟩, fun v H'' hy => ?_⟩
        obtain ⟨G2, st, rv⟩ := h2 v H'' hy
        have i2 := i'.step st
        have hl2 := st.h _ _ hl'
        have gl2 : G2 L = none := by
          cases z : G2 L with
          | none => rfl
          | some o => exact absurd gl' (st.n L (by rw [hl']; intro z; cases z) (by rw [z]; intro z; cases z))
        have R2 : R.rel M.K F G2 (hide H'' L) (wipe σ vs) e' := R.mono st.g st.h.hide (fun b hb hn => st.n b (hide_sub.ne hb) hn) R'
        have i2l := i2.lock hl2 gl2
        have R2l := R.lock (o := .lst av) R2
        refine hg (F.lock L (.lst av)) G2 H'' _ _ v _ i2l R2l rv _ fun σ2 w2 R3 => ⟨?_, ?_⟩
        · rw [w2]
          exact wipe_wipe σ vs
        have w3 : wipe σ2 vs = wipe σ vs := by rw [w2]; exact wipe_wipe σ vs
        unfold lcR at p'
        refine ht (F.lock L (.lst av)) G2 H'' σ2 _ i2l R3 _ ?_
        revert p'
        cases mt (pt xs[k] e') with
        | bad => exact id
        | ex c e3 => exact fun p' => p'.elim
        | ok b e3 =>
          intro p' bv G3 H3 H3' i3 s3 r3 R4
          obtain rfl : bv = b := r3.1
          rw [r3.2] at R4
          obtain ⟨i3', hl3, gl3⟩ := i3.unlock xL
          cases bv with
          | false =>
            have R5 := w.kl (R.unlock R4)
            rw [w3] at R5
            exact ⟨hlt, G3, _, av, ac, i3', s'.trans (st.g.trans s3), hl3, gl3, ha.mono fun _ _ => rb.mono (st.g.trans s3), Nat.le_succ_of_le hac, R5, p'⟩
          | true =>
            rw [if_pos rfl]
            refine he (F.lock L (.lst av)) G3 H3 σ2 e3 i3 R4 _ ?_
            rw [Rs.bindN_ok, if_pos rfl] at p'
            revert p'
            cases me e3 with
            | bad => exact id
            | ex c e4 => exact fun p' => p'.elim
            | ok y e4 =>
              intro p' yv G4 H4 H4' i4 s4 r4 R5
              rw [r4.2] at R5
              obtain ⟨i4', hl4, gl4⟩ := i4.unlock xL
              have R6 := w.kl (R.unlock R5)
              rw [w3] at R6
              have sg := st.g.trans (s3.trans s4)
              refine ⟨av, hl4, by rw [ha.length, sizeLine_eq]; omega, hlt, G4, _, av ++ [yv], ac ++ [y], ?_, s'.trans sg, upd_same, gl4, (ha.mono fun _ _ => rb.mono sg).app (.cons r4.1 .nil), by rw [List.length_append, List.length_singleton]; omega, ?_, p'⟩
              · refine ⟨fun b o hb => ?_, i4'.g0, i4'.new, fun b o hb ho => ?_, fun b hb => ?_, fun b o hb => ?_, i4'.xg, fun b o hb => ?_, i4'.yg, i4'.tp.put (by intro _ h; cases h)⟩
                · rw [upd_ne (fun z => by rw [z, gl4] at hb; cases hb)]; exact i4'.gh b o hb
                · rw [upd_ne (fun z => by rw [z, oL] at ho; cases ho)]; exact i4'.fr b o hb ho
                · rw [upd_ne (fun z => hb (by rw [z, oL]))]; exact i4'.al b hb
                · rw [upd_ne (fun z => by rw [z, xL] at hb; cases hb)]; exact i4'.xs b o hb
                · rw [upd_ne (fun z => by rw [z, yL] at hb; cases hb)]; exact i4'.ys b o hb
              · rw [hide_upd]
                exact R6
      · have e0 : xs.drop k = [] := List.drop_eq_nil_of_le (by omega)
        rw [e0] at p'
        exact .inl ⟨hw.1 (by omega), p' (.ref L) G' H' (hide H' L) i' (s1.trans s') ⟨L, _, rfl, hl', gl', ⟨oL, xL, yL⟩, ⟨av, rfl, ha⟩, rfl⟩ (w.rs R1 s' R')⟩)
end
section
variable {ν ν' α β γ ε ρ ι : Type} {M : Mx} {R : ERep ε} {F : Frm} {G G1 H : Hp} {σ : Sg} {D : Ends}
def PostD (K : PySem.W.Frag) (cx : Str → Addr) (F : Frm) (rr : RS V ρ) (Q : VK) (E : XK) : Rs Unit ρ → Prop
  | .ok b _ => ∀ v G' H' H1, IV F G' H' → rr.rel K F G' H' v b H1 → Q v H'
  | .ex _ _ => False
  | .bad => False
/-- a def that changes nothing: f its mirror -/
def spD (K : PySem.W.Frag) (cx : Str → Addr) (ra : IR (List V) α) (rr : RS V ρ) (f : α → Rs Unit ρ) : Sp := fun vs H Q E => ∃ G a, (Sub G H ∧ Tps G H) ∧ ra K G H vs a ∧ PostD K cx ⟨G, H, [], fun _ => none, fun _ => none⟩ rr Q E (f a)
def PostI (K : PySem.W.Frag) (cx : Str → Addr) (F : Frm) (p : Addr) (q : ORep ι) (rr : RS V ρ) (Q : VK) (E : XK) : Rs ι ρ → Prop
  | .ok b st => ∀ v G' H' H1 ho, IV F G' H' → rr.rel K F G' H' v b H1 → H1 p = some ho → G' p = none → q.rel K G' ho st → Q v H'
  | .ex _ _ => False
  | .bad => False
/-- a def that changes its first argument -/
def spI (K : PySem.W.Frag) (cx : Str → Addr) (q : ORep ι) (ra : IR (List V) α) (rr : RS V ρ) (f : ι → α → Rs ι ρ) : Sp := fun vs H Q E => ∃ G p ws ho st a, vs = .ref p :: ws ∧ H p = some ho ∧ G p = none ∧ q.rel K G ho st ∧ (Sub G H ∧ Tps G H) ∧ ra K G (hide H p) ws a ∧ PostI K cx ⟨G, H, [p], fun _ => none, fun _ => none⟩ p q rr Q E (f st a)
def Rs.run {ι : Type} (x : Rs Unit ρ) (e : ι) : Rs ι ρ := match x with
  | .ok b _ => .ok b e | .ex _ _ => .bad | .bad => .bad
@[simp] theorem Rs.run_ok {ι : Type} {b : ρ} {u : Unit} {e : ι} : (Rs.ok b u : Rs Unit ρ).run e = .ok b e := rfl
@[simp] theorem Rs.run_bad {ι : Type} {e : ι} : (Rs.bad : Rs Unit ρ).run e = .bad := rfl
def mCall (f : α → Rs Unit ρ) (m : ε → Rs ε α) : ε → Rs ε ρ := fun e => (m e).bind fun a e1 => (f a).run e1
theorem IV.start {G H : Hp} {ws : List Addr} (st : Sub G H ∧ Tps G H) : IV ⟨G, H, ws, fun _ => none, fun _ => none⟩ G H := ⟨st.1, .refl, fun _ _ h => h, fun _ _ _ h => h, fun _ h => h, fun _ _ h => (nomatch h), fun _ h => absurd rfl h, fun _ _ h => (nomatch h), fun _ h => absurd rfl h, st.2⟩
/-- behind a call that changes ws, objects of one's own -/
theorem IV.after {F : Frm} {G H G' H' : Hp} {ws : List Addr} (i : IV F G H) (j : IV ⟨G, H, ws, fun _ => none, fun _ => none⟩ G' H') (hw : ∀ p ∈ ws, (F.H0 p = none ∨ p ∈ F.ws) ∧ F.X p = none ∧ F.Y p = none ∧ G' p = none) : IV F G' H' := by
  refine ⟨j.gh, i.g0.trans j.g0, fun b h1 h2 => i.new b h1 (j.new b (i.al b h1) h2), fun b o h1 h2 => j.fr b o (fun z => ?_) (i.fr b o h1 h2), fun b h => j.al b (i.al b h), fun b o h => j.fr b o (fun z => ?_) (i.xs b o h), fun b h => ?_, fun b o h => j.fr b o (fun z => ?_) (i.ys b o h), fun b h => ?_, j.tp⟩
  · rcases (hw b z).1 with h | h
    · rw [h] at h2; cases h2
    · exact h1 h
  · rw [(hw b z).2.1] at h; cases h
  · cases z : G' b with
    | none => rfl
    | some o => exact absurd (i.xg b h) (j.new b (i.xs.ne h) (by rw [z]; intro z; cases z))
  · rw [(hw b z).2.2.1] at h; cases h
  · cases z : G' b with
    | none => rfl
    | some o => exact absurd (i.yg b h) (j.new b (i.ys.ne h) (by rw [z]; intro z; cases z))
theorem R_after {G H G' H' : Hp} {e : ε} (j : IV ⟨G, H, [], fun _ => none, fun _ => none⟩ G' H') (hR : R.rel M.K F G H σ e) : R.rel M.K F G' H' σ e := R.mono j.g0 (fun b o h => j.fr b o List.not_mem_nil h) (fun b h1 h2 => j.new b h1 h2) hR
theorem x_call {t : TA} {ra : IR (List V) α} {r : Rep ρ} {f : α → Rs Unit ρ} {m : ε → Rs ε α} (h : EX M R t (is ra) m) : EX M R (tCall (spD M.K M.cx ra (fz r) f) [] M.E t) (fz r) (mCall f m) := fun F G H σ e i hR Q p =>
  h F G H σ e i hR _ (p.bind is_h fun vs a e1 G1 H1 i1 s1 R1 r1 p1 => by
    rw [List.append_nil]
    refine ⟨G1, a, ⟨i1.gh, i1.tp⟩, r1.1, ?_⟩
    revert p1
    cases f a with
    | ok b u => exact fun p1 v G' H' Hx j hr => p1 v G' H' H' (i1.after j fun _ z => absurd z List.not_mem_nil) j.g0 ⟨hr.1, rfl⟩ (R_after j R1)
    | ex c u => exact id
    | bad => exact id)
theorem own_after {F : Frm} {G H : Hp} {L : Addr} (i : IV F G H) (h : H L = none) : ownN F L := ⟨by
  cases z : F.H0 L with
  | none => rfl
  | some o => exact absurd h (i.al L (by rw [z]; intro z; cases z)), i.xs.no h, i.ys.no h⟩
theorem x_callF {t : TA} {ra : IR (List V) α} {q : ORep ρ} {f : α → Rs Unit ρ} {m : ε → Rs ε α} (h : EX M R t (is ra) m) : EX M R (tCall (spD M.K M.cx ra (fs q) f) [] M.E t) (fs q) (mCall f m) := fun F G H σ e i hR Q p =>
  h F G H σ e i hR _ (p.bind is_h fun vs a e1 G1 H1 i1 s1 R1 r1 p1 => by
    rw [List.append_nil]
    refine ⟨G1, a, ⟨i1.gh, i1.tp⟩, r1.1, ?_⟩
    revert p1
    cases f a with
    | ok b u =>
      rintro p1 v G' H' Hx j ⟨L, ho, rfl, h1, h2, h3, h4, rfl⟩
      refine p1 (.ref L) G' H' (hide H' L) (i1.after j fun _ z => absurd z List.not_mem_nil) j.g0 ⟨L, ho, rfl, h1, h2, own_after i1 h3.1, h4, rfl⟩ (R.mono j.g0 (sub_hide (fun b o h => j.fr b o List.not_mem_nil h) h3.1) (fun b h1 h2 => j.new b h1 h2) R1)
    | ex c u => exact id
    | bad => exact id)
/-- a call that changes the object of a name -/
def mCallI (l : Ln ε ι) (f : ι → α → Rs ι ρ) (m : ε → Rs ε α) : ε → Rs ε ρ := fun e => match l.get e with
  | none => .bad
  | some _ => (m e).bind fun a e1 => match l.get e1 with
    | none => .bad
    | some st => match f st a with
      | .ok b st' => .ok b (l.put (some st') (l.put none e1)) | .ex _ _ => .bad | .bad => .bad
def OwnQ (own : Frm → Addr → Prop) : Prop := ∀ F L, own F L → (F.H0 L = none ∨ L ∈ F.ws) ∧ F.X L = none ∧ F.Y L = none
theorem ownN_q : OwnQ ownN := fun _ _ h => ⟨.inl h.1, h.2⟩
theorem ownI_q {k : Nat} : OwnQ (ownI k) := fun _ _ h => ⟨.inr (List.mem_of_getElem? h.1), h.2⟩
/-- arguments beside an object that is changed: read without it -/
def apt (ra : IR (List V) α) : RS (List V) α := ⟨fun K F G H vs a H1 => (∀ L, (F.H0 L = none ∨ L ∈ F.ws) → G L = none → ra K G (hide H L) vs a) ∧ H1 = H⟩
theorem apt_h {r : IR (List V) α} : ∀ K F G H v a H1, (apt r).rel K F G H v a H1 → H1 = H := fun _ _ _ _ _ _ _ z => z.2
theorem x_pnil : EX M R tNil (apt aNil) (mC ()) := fun F G H σ e i hR Q p => p [] G H H i .refl ⟨fun _ _ _ => rfl, rfl⟩ hR
theorem x_pone {t : TE} {r : Rep α} {i' : IR V α} {m : ε → Rs ε α} (cv : Cv r i') (h : EX M R t (fz r) m) : EX M R (tCons t tNil) (apt (aOne i')) m := fun F G H σ e i hR Q p => by
  refine h F G H σ e i hR _ ?_
  revert p
  cases m e with
  | ok a e' => exact fun p v G' H' H1 i1 s1 z R1 => p [v] G' H' H1 i1 s1 ⟨fun L _ hg => ⟨v, rfl, cv _ _ _ _ _ (sub_hide i1.gh hg) z.1⟩, z.2⟩ R1
  | ex c e' => exact id
  | bad => exact id
theorem x_pcons {t : TE} {tr : TA} {r : Rep α} {j : IR V α} {k : IR (List V) β} {m : ε → Rs ε α} {n : ε → Rs ε β} (cv : Cv r j) (h : EX M R t (fz r) m) (h' : EX M R tr (apt k) n) : EX M R (tCons t tr) (apt (aCons j k)) (mPair m n) := fun F G H σ e i hR Q p =>
  h F G H σ e i hR _ (p.bind fz_h fun v a e1 G1 H1 i1 s1 R1 r1 p1 => h' F G1 H1 σ e1 i1 R1 _ (p1.bind apt_h fun ws b e2 G2 H2 i2 s2 R2 r2 p2 =>
    p2 (v :: ws) G2 H2 H2 i2 .refl ⟨fun L hw hg => ⟨v, ws, rfl, cv _ _ _ _ _ (sub_hide i2.gh hg) (r.mono s2 r1.1), r2.1 L hw hg⟩, rfl⟩ R2))
theorem x_callI {n : Nat} {own : Frm → Addr → Prop} {l : Ln ε ι} {q : ORep ι} {t : TA} {ri : IR (List V) α} {r : Rep ρ} {f : ι → α → Rs ι ρ} {m : ε → Rs ε α} (at' : OwAt R n own q l) (ho : OwnQ own)
    (h : EX M R t (apt ri) m) : EX M R (tCall (spI M.K M.cx q ri (fz r) f) [] M.E (tCons (tVar n) t)) (fz r) (mCallI l f m) := fun F G H σ e i hR Q p => by
  unfold mCallI at p
  cases h0 : l.get e with
  | none => rw [h0] at p; exact p.elim
  | some st0 =>
    rw [h0] at p
    obtain ⟨L0, ho0, h1, _⟩ := at'.rd hR h0
    refine ⟨_, h1, h F G H σ e i hR _ (p.bind apt_h fun ws a e1 G1 H1 i1 s1 R1 r1 p1 => ?_)⟩
    show spI M.K M.cx q ri (fz r) f ((V.ref L0 :: ws) ++ []) H1 Q M.E
    rw [List.append_nil]
    cases h2 : l.get e1 with
    | none => rw [h2] at p1; exact p1.elim
    | some st =>
      rw [h2] at p1
      obtain ⟨L, hob, h3, h4, h5, h6, h7, h8⟩ := at'.rd R1 h2
      rw [h1] at h3
      cases h3
      have hp : ∀ {G' : Hp}, G' L0 = none → ∀ p ∈ [L0], (F.H0 p = none ∨ p ∈ F.ws) ∧ F.X p = none ∧ F.Y p = none ∧ G' p = none := fun hg p hp => by
        obtain rfl := List.mem_singleton.mp hp
        exact ⟨(ho _ _ h6).1, (ho _ _ h6).2.1, (ho _ _ h6).2.2, hg⟩
      have back : ∀ {G' H' : Hp} {ho' : HO} {st' : ι}, IV ⟨G1, H1, [L0], fun _ => none, fun _ => none⟩ G' H' → H' L0 = some ho' → G' L0 = none → q.rel M.K G' ho' st' → R.rel M.K F G' H' σ (l.put (some st') (l.put none e1)) := fun {G' H' ho' st'} j e2 e3 e4 =>
        at'.bk (R.mono j.g0 (fun b o hb => by
          obtain ⟨nb, hb⟩ := hide_some hb
          rw [hide_ne nb]
          exact j.fr b o (by simpa using nb) hb) (fun b hb hn => j.new b (hide_sub.ne hb) hn) h8) h1 e2 e3 h6 e4
      refine ⟨G1, L0, ws, hob, st, a, rfl, h4, h5, h7, ⟨i1.gh, i1.tp⟩, r1.1 _ (ho _ _ h6).1 h5, ?_⟩
      revert p1
      dsimp only
      cases f st a with
      | ok b st' =>
        rintro p1 v G' H' Hx ho' j ⟨hr, rfl⟩ e2 e3 e4
        exact p1 v G' _ _ (i1.after j (hp e3)) j.g0 ⟨hr, rfl⟩ (back j e2 e3 e4)
      | ex c st' => exact id
      | bad => exact id
theorem x_callIF {n : Nat} {own : Frm → Addr → Prop} {l : Ln ε ι} {q : ORep ι} {t : TA} {ri : IR (List V) α} {qr : ORep ρ} {f : ι → α → Rs ι ρ} {m : ε → Rs ε α} (at' : OwAt R n own q l) (ho : OwnQ own)
    (h : EX M R t (apt ri) m) : EX M R (tCall (spI M.K M.cx q ri (fs qr) f) [] M.E (tCons (tVar n) t)) (fs qr) (mCallI l f m) := fun F G H σ e i hR Q p => by
  unfold mCallI at p
  cases h0 : l.get e with
  | none => rw [h0] at p; exact p.elim
  | some st0 =>
    rw [h0] at p
    obtain ⟨L0, ho0, h1, _⟩ := at'.rd hR h0
    refine ⟨_, h1, h F G H σ e i hR _ (p.bind apt_h fun ws a e1 G1 H1 i1 s1 R1 r1 p1 => ?_)⟩
    show spI M.K M.cx q ri (fs qr) f ((V.ref L0 :: ws) ++ []) H1 Q M.E
    rw [List.append_nil]
    cases h2 : l.get e1 with
    | none => rw [h2] at p1; exact p1.elim
    | some st =>
      rw [h2] at p1
      obtain ⟨L, hob, h3, h4, h5, h6, h7, h8⟩ := at'.rd R1 h2
      rw [h1] at h3
      cases h3
      have hp : ∀ {G' : Hp}, G' L0 = none → ∀ p ∈ [L0], (F.H0 p = none ∨ p ∈ F.ws) ∧ F.X p = none ∧ F.Y p = none ∧ G' p = none := fun hg p hp => by
        obtain rfl := List.mem_singleton.mp hp
        exact ⟨(ho _ _ h6).1, (ho _ _ h6).2.1, (ho _ _ h6).2.2, hg⟩
      have back : ∀ {G' H' : Hp} {ho' : HO} {st' : ι}, IV ⟨G1, H1, [L0], fun _ => none, fun _ => none⟩ G' H' → H' L0 = some ho' → G' L0 = none → q.rel M.K G' ho' st' → R.rel M.K F G' H' σ (l.put (some st') (l.put none e1)) := fun {G' H' ho' st'} j e2 e3 e4 =>
        at'.bk (R.mono j.g0 (fun b o hb => by
          obtain ⟨nb, hb⟩ := hide_some hb
          rw [hide_ne nb]
          exact j.fr b o (by simpa using nb) hb) (fun b hb hn => j.new b (hide_sub.ne hb) hn) h8) h1 e2 e3 h6 e4
      refine ⟨G1, L0, ws, hob, st, a, rfl, h4, h5, h7, ⟨i1.gh, i1.tp⟩, r1.1 _ (ho _ _ h6).1 h5, ?_⟩
      revert p1
      dsimp only
      cases f st a with
      | ok b st' =>
        rintro p1 v G' H' Hx ho' j ⟨L', ho2, rfl, g1, g2, g3, g4, rfl⟩ e2 e3 e4
        obtain ⟨ne, e2⟩ := hide_some e2
        refine p1 (.ref L') G' H' (hide H' L') (i1.after j (hp e3)) j.g0 ⟨L', ho2, rfl, g1, g2, own_after i1 g3.1, g4, rfl⟩ (at'.bk (R.mono j.g0 (fun b o hb => ?_) (fun b hb hn => j.new b (hide_sub.ne hb) hn) h8) h1 (by rw [hide_ne ne]; exact e2) e3 h6 e4)
        obtain ⟨nb, hb⟩ := hide_some hb
        rw [hide_ne nb, hide_ne (ne_of_none hb g3.1)]
        exact j.fr b o (by simpa using nb) hb
      | ex c st' => exact id
      | bad => exact id
def gNilA : GR (List V) Unit := ⟨fun _ _ vs _ => vs = [], fun _ h => h⟩
def gOne (r : Rep α) : GR (List V) α := ⟨fun K G vs a => ∃ v, vs = [v] ∧ r.rel K G v a, fun s ⟨v, h1, h2⟩ => ⟨v, h1, r.mono s h2⟩⟩
def gConsA (r : Rep α) (ra : GR (List V) β) : GR (List V) (α × β) := ⟨fun K G vs p => ∃ v ws, vs = v :: ws ∧ r.rel K G v p.1 ∧ ra.rel K G ws p.2, fun s ⟨v, ws, h1, h2, h3⟩ => ⟨v, ws, h1, r.mono s h2, ra.mono s h3⟩⟩
theorem Cv.nil : Cv gNilA aNil := fun _ _ _ _ _ _ h => h
theorem Cv.cons {r : Rep α} {i : IR V α} {ra : GR (List V) β} {ri : IR (List V) β} (c : Cv r i) (d : Cv ra ri) : Cv (gConsA r ra) (aCons i ri) := fun K G H vs a s ⟨v, ws, h1, h2, h3⟩ => ⟨v, ws, h1, c _ _ _ _ _ s h2, d _ _ _ _ _ s h3⟩
theorem x_gone {t : TE} {r : Rep α} {m : ε → Rs ε α} (h : EX M R t (fz r) m) : EX M R (tCons t tNil) (fz (gOne r)) m := fun F G H σ e i hR Q p => by
  refine h F G H σ e i hR _ ?_
  revert p
  cases m e with
  | ok a e' => exact fun p v G' H' H1 i1 s1 z R1 => p [v] G' H' H1 i1 s1 ⟨⟨v, rfl, z.1⟩, z.2⟩ R1
  | ex c e' => exact id
  | bad => exact id
def So.run (dn : Option ρ) : So ε ρ → Rs Unit ρ
  | .rt a _ => .ok a () | .nx _ => .of dn () | .ex c _ => .ex c () | _ => .bad
def So.runI (l : Ln ε ι) (dn : Option ρ) : So ε ρ → Rs ι ρ
  | .rt a e => match l.get e with
    | some st => .ok a st
    | none => .bad
  | .nx e => match l.get e with
    | some st => .of dn st
    | none => .bad
  | .ex c e => match l.get e with
    | some st => .ex c st
    | none => .bad
  | _ => .bad
theorem d_D {K : PySem.W.Frag} {cx : Str → Addr} {E : XK} {N : List Str} {vs : List V} {Q : VK} {rr : RS V ρ} {t : TS} {mb : ε → So ε ρ} {ra : IR (List V) α} {e0 : α → ε} {dn : Option ρ} {E' : XK} (hs : SX ⟨K, E', cx⟩ R rr t mb)
    (h0 : ∀ G H vs a, Sub G H → ra K G H vs a → R.rel K ⟨G, H, [], fun _ => none, fun _ => none⟩ G H (start N vs) (e0 a)) (hd : ∀ b, dn = some b → ∀ F G H, rr.rel K F G H .non b H) (h : spD K cx ra rr (fun a => (mb (e0 a)).run dn) vs H Q E) :
    t { nx := fun _ H' => Q .non H', rt := Q } (start N vs) H := by
  obtain ⟨G, a, s, hr, p⟩ := h
  have p : PostD K cx ⟨G, H, [], fun _ => none, fun _ => none⟩ rr Q E ((mb (e0 a)).run dn) := p
  refine hs ⟨G, H, [], fun _ => none, fun _ => none⟩ G H _ (e0 a) (.start s) (h0 G H vs a s.1 hr) _ ?_
  cases z : mb (e0 a) with
  | rt b e =>
    rw [z] at p
    exact fun v σ' G' H' H1 i _ hv _ => p v G' H' H1 i hv
  | nx e =>
    rw [z] at p
    cases dn with
    | none => exact False.elim p
    | some b => exact fun σ' G' H' i _ _ => p .non G' H' H' i (hd b rfl _ _ _)
  | ex c e => rw [z] at p; exact False.elim p
  | bk e => rw [z] at p; exact False.elim p
  | ct e => rw [z] at p; exact False.elim p
  | bad => rw [z] at p; exact False.elim p
theorem d_I {K : PySem.W.Frag} {cx : Str → Addr} {E : XK} {N : List Str} {vs : List V} {Q : VK} {rr : RS V ρ} {t : TS} {mb : ε → So ε ρ} {q : ORep ι} {l : Ln ε ι} {ra : IR (List V) α} {e0 : ι → α → ε} {dn : Option ρ} {E' : XK} (hs : SX ⟨K, E', cx⟩ R rr t mb) (at' : OwAt R 0 (ownI 0) q l)
    (h0 : ∀ G H p ho st ws a, H p = some ho → G p = none → q.rel K G ho st → Sub G H → ra K G (hide H p) ws a → R.rel K ⟨G, H, [p], fun _ => none, fun _ => none⟩ G H (start N (.ref p :: ws)) (e0 st a)) (hd : ∀ b, dn = some b → ∀ F G H, rr.rel K F G H .non b H)
    (h : spI K cx q ra rr (fun st a => (mb (e0 st a)).runI l dn) vs H Q E) : t { nx := fun _ H' => Q .non H', rt := Q } (start N vs) H := by
  obtain ⟨G, p, ws, ho, st, a, rfl, h1, h2, h3, s, hr, pp⟩ := h
  refine hs ⟨G, H, [p], fun _ => none, fun _ => none⟩ G H _ (e0 st a) (.start s) (h0 G H p ho st ws a h1 h2 h3 s.1 hr) _ ?_
  have look : ∀ {G' H' : Hp} {σ' : Sg} {e : ε} {x : ι}, R.rel K ⟨G, H, [p], fun _ => none, fun _ => none⟩ G' H' σ' e → l.get e = some x → ∃ ho', H' p = some ho' ∧ G' p = none ∧ q.rel K G' ho' x := fun hR hx => by
    obtain ⟨L, ho', _, b2, b3, b4, b5, _⟩ := at'.rd hR hx
    have : p = L := by simpa [ownI] using b4.1
    subst this
    exact ⟨ho', b2, b3, b5⟩
  have pp : PostI K cx ⟨G, H, [p], fun _ => none, fun _ => none⟩ p q rr Q E ((mb (e0 st a)).runI l dn) := pp
  cases z0 : mb (e0 st a) with
  | rt b e =>
    rw [z0] at pp
    unfold So.runI at pp
    cases z : l.get e with
    | none => simp only [z] at pp; exact False.elim pp
    | some x =>
      simp only [z] at pp
      exact fun v σ' G' H' H1 i _ hv hR => let ⟨ho', b1, b2, b3⟩ := look hR z; pp v G' H' H1 ho' i hv b1 b2 b3
  | nx e =>
    rw [z0] at pp
    unfold So.runI at pp
    cases z : l.get e with
    | none => simp only [z] at pp; exact False.elim pp
    | some x =>
      simp only [z] at pp
      cases dn with
      | none => exact False.elim pp
      | some b => exact fun σ' G' H' i _ hR => let ⟨ho', b1, b2, b3⟩ := look hR z; pp .non G' H' H' ho' i (hd b rfl _ _ _) b1 b2 b3
  | ex c e =>
    rw [z0] at pp
    unfold So.runI at pp
    cases z : l.get e with
    | none => simp only [z] at pp; exact False.elim pp
    | some x => simp only [z] at pp; exact False.elim pp
  | bk e => rw [z0] at pp; exact False.elim pp
  | ct e => rw [z0] at pp; exact False.elim pp
  | bad => rw [z0] at pp; exact False.elim pp
theorem e_nil {K : PySem.W.Frag} : eNil.rel K F G H [] () := rfl
theorem e_fr {K : PySem.W.Frag} {r : Rep α} {v : V} {a : α} {e : ε} (h : r.rel K G v a) (t : R.rel K F G H σ e) : (eFr r R).rel K F G H (some v :: σ) (some a, e) := ⟨_, _, rfl, fun x hx => ⟨v, rfl, by cases hx; exact h⟩, t⟩
theorem e_frN {K : PySem.W.Frag} {r : Rep α} {o : Option V} {e : ε} (t : R.rel K F G H σ e) : (eFr r R).rel K F G H (o :: σ) (none, e) := ⟨_, _, rfl, fun x hx => (nomatch hx), t⟩
theorem e_owN {K : PySem.W.Frag} {own : Frm → Addr → Prop} [op : OwnP own] {q : ORep α} {o : Option V} {e : ε} (t : R.rel K F G H σ e) : (eOwP own q R).rel K F G H (o :: σ) (none, e) := ⟨_, _, rfl, .inl ⟨rfl, t⟩⟩
theorem e_bo {K : PySem.W.Frag} {q : ORep α} {v : V} {a : α} {e : ε} {H0 : Hp} (h : rd q K G H0 v a) (hs : ∀ b o, H0 b = some o → F.H0 b = some o ∧ b ∉ F.ws) (t : R.rel K F G H σ e) : (eBo q R).rel K F G H (some v :: σ) (some a, e) :=
  ⟨_, _, rfl, fun x hx => by
    cases hx
    obtain ⟨L, ho, rfl, h1, h2⟩ := h
    exact ⟨L, ho, rfl, (hs _ _ h1).1, (hs _ _ h1).2, h2⟩, t⟩
theorem e_io {K : PySem.W.Frag} {q : ORep α} {p : Addr} {ho : HO} {a : α} {e : ε} (h1 : H p = some ho) (h2 : G p = none) (h3 : q.rel K G ho a) (hF : F.ws[0]? = some p) (hX : F.X p = none ∧ F.Y p = none) (t : R.rel K F G (hide H p) σ e) : (eIo 0 q R).rel K F G H (some (.ref p) :: σ) (some a, e) :=
  ⟨_, _, rfl, .inr ⟨a, p, ho, rfl, rfl, h1, h2, ⟨hF, hX⟩, h3, t⟩⟩
theorem bo_D {G H : Hp} : ∀ b o, H b = some o → (Frm.mk G H [] (fun _ => none) fun _ => none).H0 b = some o ∧ b ∉ (Frm.mk G H [] (fun _ => none) fun _ => none).ws := fun b o h => ⟨h, List.not_mem_nil⟩
theorem bo_I {G H : Hp} {p : Addr} : ∀ b o, hide H p b = some o → (Frm.mk G H [p] (fun _ => none) fun _ => none).H0 b = some o ∧ b ∉ (Frm.mk G H [p] (fun _ => none) fun _ => none).ws := fun b o h => ⟨(hide_some h).2, by simpa using (hide_some h).1⟩
def ALen (ra : IR (List V) α) (n : Nat) : Prop := ∀ K G H vs a, ra K G H vs a → vs.length = n
theorem ALen.nil : ALen aNil 0 := fun _ _ _ _ _ h => by rw [show _ = [] from h]; rfl
theorem ALen.one {i : IR V α} : ALen (aOne i) 1 := fun _ _ _ _ _ ⟨v, h, _⟩ => by rw [h]; rfl
theorem ALen.cons {i : IR V α} {ra : IR (List V) β} {n : Nat} (h : ALen ra n) : ALen (aCons i ra) (n + 1) := fun _ _ _ _ _ ⟨v, ws, e, _, h2⟩ => by rw [e, List.length_cons, h _ _ _ _ _ h2]
theorem len_D {K : PySem.W.Frag} {cx : Str → Addr} {ra : IR (List V) α} {rr : RS V ρ} {f : α → Rs Unit ρ} {n : Nat} (h : ALen ra n) : ∀ vs H Q E, spD K cx ra rr f vs H Q E → vs.length = n := fun vs H Q E ⟨G, a, _, hr, _⟩ => h _ _ _ _ _ hr
theorem len_I {K : PySem.W.Frag} {cx : Str → Addr} {q : ORep ι} {ra : IR (List V) α} {rr : RS V ρ} {f : ι → α → Rs ι ρ} {n : Nat} (h : ALen ra n) : ∀ vs H Q E, spI K cx q ra rr f vs H Q E → vs.length = n + 1 := fun vs H Q E ⟨G, p, ws, ho, st, a, e, _, _, _, _, hr, _⟩ => by rw [e, List.length_cons, h _ _ _ _ _ hr]
end
section
variable {K : PySem.W.Frag} {α β γ ε ρ : Type} {w : World} {P : Program}
def gAdd (i j : Int) : Option Int := some (i + j)
def gSubI (i j : Int) : Option Int := some (i - j)
def gMul (i j : Int) : Option Int := if (-18446744073709551616 < i ∧ i < 18446744073709551616) ∨ (-18446744073709551616 < j ∧ j < 18446744073709551616) then some (i * j) else none
def gDiv (i j : Int) : Option Int := if 0 < j ∧ j < 1073741824 then some (i / j) else none
def gMod (i j : Int) : Option Int := if 0 < j then some (i % j) else none
def gPow (i j : Int) : Option Int := if 0 ≤ j ∧ j ≤ 1000000 ∧ (-18446744073709551616 < i ∧ i < 18446744073709551616) then some (i ^ j.toNat) else none
def gShl (i j : Int) : Option Int := if 0 ≤ j ∧ j ≤ 1000000 ∧ (-18446744073709551616 < i ∧ i < 18446744073709551616) then some (i * 2 ^ j.toNat) else none
def gShr (i j : Int) : Option Int := if 0 ≤ j then some (i / 2 ^ j.toNat) else none
def gAnd (i j : Int) : Option Int := some (Builtin.bitAnd i j)
def gOr (i j : Int) : Option Int := some (Builtin.bitOr i j)
def gXor (i j : Int) : Option Int := some (Builtin.bitXor i j)
def gLt (i j : Int) : Option Bool := some (decide (i < j))
def gLe (i j : Int) : Option Bool := some (decide (i ≤ j))
def gGt (i j : Int) : Option Bool := some (decide (j < i))
def gGe (i j : Int) : Option Bool := some (decide (j ≤ i))
def gEq [DecidableEq α] (a b : α) : Option Bool := some (decide (a = b))
def gNe [DecidableEq α] (a b : α) : Option Bool := some (!decide (a = b))
def gNeg (i : Int) : Option Int := some (-i)
theorem v_I0 {g : Int → Int → V} {f : Int → Int → γ} {r' : Rep γ} (h : ∀ K G i j, r'.rel K G (g i j) (f i j)) : VR2 K (rI0 g) (ir rI) (ir rI) r' (fun i j => some (f i j)) := fun G H v w a b c Q s h1 h2 hg k => by
  cases hg
  exact ⟨a, b, h1, h2, k _ G H (.refl s) (h _ _ _ _)⟩
theorem v_add : VR2 K rAdd (ir rI) (ir rI) rI gAdd := v_I0 fun _ _ _ _ => rfl
theorem v_sub : VR2 K rSub (ir rI) (ir rI) rI gSubI := v_I0 fun _ _ _ _ => rfl
theorem v_lt : VR2 K rLt (ir rI) (ir rI) rB gLt := v_I0 fun _ _ _ _ => rfl
theorem v_le : VR2 K rLe (ir rI) (ir rI) rB gLe := v_I0 fun _ _ _ _ => rfl
theorem v_gt : VR2 K rGt (ir rI) (ir rI) rB gGt := v_I0 fun _ _ _ _ => rfl
theorem v_ge : VR2 K rGe (ir rI) (ir rI) rB gGe := v_I0 fun _ _ _ _ => rfl
theorem v_IC {C C' : Int → Int → Prop} [∀ i j, Decidable (C' i j)] {f : Int → Int → Int} (hC : ∀ i j, C' i j → C i j) : VR2 K (L2.rI C fun i j => .int (f i j)) (ir rI) (ir rI) rI (fun i j => if C' i j then some (f i j) else none) := fun G H v w a b c Q s h1 h2 hg k => by
  dsimp only at hg
  split at hg
  · next hc => cases hg; exact ⟨a, b, h1, h2, hC _ _ hc, k _ G H (.refl s) rfl⟩
  · cases hg
theorem v_mul : VR2 K rMul (ir rI) (ir rI) rI gMul := v_IC (C := CMul) fun i j h => by unfold CMul; omega
theorem v_div : VR2 K rDiv (ir rI) (ir rI) rI gDiv := v_IC fun i j h => h
theorem v_mod : VR2 K rMod (ir rI) (ir rI) rI gMod := v_IC fun i j h => h
theorem v_pow : VR2 K rPow (ir rI) (ir rI) rI gPow := v_IC (C := CPow) fun i j h => by unfold CPow; omega
theorem v_eqI : VR2 K rEq (ir rI) (ir rI) rB gEq := fun G H v w a b c Q s h1 h2 hg k => by
  cases hg; cases h1; cases h2
  exact ⟨rfl, by rw [show decide (V.int a = V.int b) = decide (a = b) by simp]; exact k _ G H (.refl s) rfl⟩
theorem v_eqS : VR2 K rEq (ir rS) (ir rS) rB gEq := fun G H v w a b c Q s h1 h2 hg k => by
  cases hg; cases h1; cases h2
  exact ⟨rfl, by rw [show decide (V.str a = V.str b) = decide (a = b) by simp]; exact k _ G H (.refl s) rfl⟩
theorem v_neS : VR2 K rNe (ir rS) (ir rS) rB gNe := fun G H v w a b c Q s h1 h2 hg k => by
  cases hg; cases h1; cases h2
  exact ⟨rfl, by rw [show decide (V.str a = V.str b) = decide (a = b) by simp]; exact k _ G H (.refl s) rfl⟩
/-- x is None -/
def gIsN (a : Option α) (_ : Unit) : Option Bool := some a.isNone
def gNotN (a : Option α) (_ : Unit) : Option Bool := some a.isSome
theorem v_isN {r : Rep α} : VR2 K rIsN (ir (rO r)) (ir rN) rB gIsN := fun G H v w a b c Q s h1 h2 hg k => by
  cases hg
  refine ⟨h2, k _ G H (.refl s) ?_⟩
  cases a with
  | none => rw [show v = .non from h1]; rfl
  | some x => rw [decide_eq_false h1.1]; rfl
theorem sql_h {H : Hp} {L : Addr} {vs : List V} (h : H L = some (.lst vs)) : SqL K H L vs := .inl (.inl h)
theorem sqt_h {H : Hp} {L : Addr} {vs : List V} (h : H L = some (.tup vs)) : SqT K H L vs := .inl (.inl h)
def gLen (xs : List α) : Option Int := some (xs.length : Int)
theorem v_lenL {r : Rep α} : VR K (rLenL K) (aOne (rd (oL r))) rI gLen := fun G H v a b Q s ⟨x, h0, L, ho, h1, h2, vs, h3, h4⟩ hg k => by
  cases hg; subst h0 h1 h3
  exact ⟨L, vs, rfl, .inl (sql_h h2), k _ G H (.refl s) (by rw [h4.length]; rfl)⟩
theorem v_lenT {r : Rep α} : VR K (rLenL K) (aOne (rd (oT r))) rI gLen := fun G H v a b Q s ⟨x, h0, L, ho, h1, h2, vs, h3, h4⟩ hg k => by
  cases hg; subst h0 h1 h3
  exact ⟨L, vs, rfl, .inr (sqt_h h2), k _ G H (.refl s) (by rw [h4.length]; rfl)⟩
theorem v_lenS : VR K (rLenL K) (aOne (ir rScr)) rI gLen := fun G H v a b Q s ⟨x, h0, L, h1, h2⟩ hg k => by
  cases hg; subst h0 h1
  obtain ⟨L', e, hf⟩ := rScr.mono s ⟨L, rfl, h2⟩
  cases e
  exact ⟨L, _, rfl, .inl hf.sql, k _ G H (.refl s) (by rw [List.length_map]; rfl)⟩
/-- an item -/
def gIx (xs : List α) (i : Int) : Option α := atI xs i
theorem A2.at {R : α → β → Prop} {vs : List α} {xs : List β} {i : Int} {x : β} (h : A2 R vs xs) (e : atI xs i = some x) : ∃ v, atI vs i = some v ∧ R v x := by
  unfold atI at e ⊢
  rw [h.length]
  cases z : ixN xs.length i with
  | none => rw [z] at e; cases e
  | some j =>
    rw [z] at e
    exact h.get e
theorem v_ixL {r : Rep α} : VR2 K (rIxL K) (rd (oL r)) (ir rI) r gIx := fun G H v w a b c Q s ⟨L, ho, h1, h2, vs, h3, h4⟩ hi hg k => by
  subst h1 h3; cases hi
  obtain ⟨x, hx, hr⟩ := h4.at hg
  exact ⟨L, vs, b, x, rfl, rfl, sql_h h2, hx, k _ G H (.refl s) hr⟩
theorem v_ixT {r : Rep α} : VR2 K (rIxT K) (rd (oT r)) (ir rI) r gIx := fun G H v w a b c Q s ⟨L, ho, h1, h2, vs, h3, h4⟩ hi hg k => by
  subst h1 h3; cases hi
  obtain ⟨x, hx, hr⟩ := h4.at hg
  exact ⟨L, vs, b, x, rfl, rfl, sqt_h h2, hx, k _ G H (.refl s) hr⟩
theorem v_ixS : VR2 K (rIxL K) (ir rScr) (ir rI) rI gIx := fun G H v w a b c Q s hS hi hg k => by
  cases hi
  obtain ⟨L, rfl, hf⟩ := rScr.mono s hS
  have : A2 (fun v (i : Int) => v = V.int i) (a.map V.int) a := .ofMap fun _ _ => rfl
  obtain ⟨x, hx, hr⟩ := this.at hg
  exact ⟨L, _, b, x, rfl, rfl, hf.sql, hx, k _ G H (.refl s) hr⟩
/-- items of a pair, of three, by written numbers -/
def gFst (p : α × β) (i : Int) : Option α := if i = 0 then some p.1 else none
def gSnd (p : α × β) (i : Int) : Option β := if i = 1 then some p.2 else none
def g31 (p : α × β × γ) (i : Int) : Option β := if i = 1 then some p.2.1 else none
def g32 (p : α × β × γ) (i : Int) : Option γ := if i = 2 then some p.2.2 else none
theorem of_ite {c : Prop} [Decidable c] {x y : α} (h : (if c then some x else none) = some y) : c ∧ x = y := by
  split at h
  · next hc => cases h; exact ⟨hc, rfl⟩
  · cases h
theorem v_t20 {r : Rep α} {r' : Rep β} : VR2 K (rIxT K) (rd (oT2 r r')) (ir rI) r gFst := fun G H v w a b c Q s ⟨L, ho, h1, h2, x, y, h3, h4, h5⟩ hi hg k => by
  subst h1 h3; cases hi
  obtain ⟨rfl, rfl⟩ := of_ite hg
  exact ⟨L, _, 0, x, rfl, rfl, sqt_h h2, rfl, k _ G H (.refl s) h4⟩
theorem v_t21 {r : Rep α} {r' : Rep β} : VR2 K (rIxT K) (rd (oT2 r r')) (ir rI) r' gSnd := fun G H v w a b c Q s ⟨L, ho, h1, h2, x, y, h3, h4, h5⟩ hi hg k => by
  subst h1 h3; cases hi
  obtain ⟨rfl, rfl⟩ := of_ite hg
  exact ⟨L, _, 1, y, rfl, rfl, sqt_h h2, rfl, k _ G H (.refl s) h5⟩
/-- xs + ys -/
def gCat (xs ys : List α) : Option (List α) := if xs.length + ys.length ≤ 1000000 then some (xs ++ ys) else none
theorem v_cat {r : Rep α} : VF2 K rCat (rd (oL r)) (rd (oL r)) (oL r) gCat := fun G H v w a b c Q s ⟨L, ho, h1, h2, vs, h3, h4⟩ ⟨L', ho', h1', h2', vs', h3', h4'⟩ hg k => by
  subst h1 h3 h1' h3'
  obtain ⟨hz, rfl⟩ := of_ite hg
  exact ⟨L, L', vs, vs', rfl, rfl, h2, h2', by rw [h4.length, h4'.length, sizeLine_eq]; omega, fun p hp => k p _ G _ (.own s hp) hp (s.no hp) upd_same ⟨_, rfl, h4.app h4'⟩⟩
theorem v_catT {r : Rep α} : VR2 K (rCatA K) (ir (rT r)) (ir (rT r)) (rT r) gCat := fun G H v w a b c Q s ⟨L, ho, h1, h2, vs, h3, h4⟩ ⟨L', ho', h1', h2', vs', h3', h4'⟩ hg k => by
  subst h1 h3 h1' h3'
  obtain ⟨hz, rfl⟩ := of_ite hg
  refine ⟨L, L', vs, vs', rfl, rfl, sqt_of s h2, sqt_of s h2', by rw [h4.length, h4'.length, sizeLine_eq]; omega, fun e => ?_, fun _ e => ?_, fun _ _ p hp => k (.ref p) _ _ (.new s hp) ⟨p, _, rfl, upd_same, _, rfl, (h4.app h4').mono fun _ _ => r.mono (sub_upd (s.no hp))⟩⟩
  · refine k (.ref L') G H (.refl s) ⟨L', _, rfl, h2', vs', rfl, ?_⟩
    subst e
    cases h4
    exact h4'
  · refine k (.ref L) G H (.refl s) ⟨L, _, rfl, h2, vs, rfl, ?_⟩
    subst e
    cases h4'
    rw [List.append_nil]
    exact h4
/-- xs * k -/
def gRep (xs : List α) (k : Int) : Option (List α) := if (-(2 ^ 62) ≤ k ∧ k < 2 ^ 62) ∧ xs.length * k.toNat ≤ 1000000 then some (List.replicate k.toNat xs).flatten else none
/-- slices -/
def cutL (xs : List α) (lo hi : Option Int) : List α := (xs.drop (HT.sIx xs.length 0 lo)).take (HT.sIx xs.length xs.length hi - HT.sIx xs.length 0 lo)
def gCut (xs : List α) (lo hi : Option Int) : Option (List α) := some (cutL xs lo hi)
theorem A2.cut {R : V → β → Prop} {vs : List V} {xs : List β} {lo hi : Option Int} (h : A2 R vs xs) : A2 R (cutV vs lo hi) (cutL xs lo hi) := by
  unfold cutV cutL
  rw [h.length]
  exact h.drop.take
theorem v_slL {r : Rep α} : VSlF K (rSlL K) (rd (oL r)) (oL r) gCut := fun lo hi G H v a b Q s ⟨L, ho, h1, h2, vs, h3, h4⟩ hg k => by
  subst h1 h3; cases hg
  exact ⟨L, vs, rfl, sql_h h2, fun p hp => k p _ G _ (.own s hp) hp (s.no hp) upd_same ⟨_, rfl, h4.cut⟩⟩
/-- tuple(xs), list(xs) -/
def gId (xs : List α) : Option (List α) := some xs
theorem v_tupOfL {r : Rep α} : VR K (rTupOf K) (aOne (rd (oL r))) (rT r) gId := fun G H v a b Q s ⟨x, h0, L, ho, h1, h2, vs, h3, h4⟩ hg k => by
  cases hg; subst h0 h1 h3
  exact ⟨L, vs, rfl, .inl ⟨sql_h h2, fun p hp => k (.ref p) _ _ (.new s hp) ⟨p, _, rfl, upd_same, _, rfl, h4.mono fun _ _ => r.mono (sub_upd (s.no hp))⟩⟩⟩
theorem v_lstOfL {r : Rep α} : VF K (rListOf K) (aOne (rd (oL r))) (oL r) gId := fun G H v a b Q s ⟨x, h0, L, ho, h1, h2, vs, h3, h4⟩ hg k => by
  cases hg; subst h0 h1 h3
  exact ⟨L, vs, rfl, .inl (sql_h h2), fun p hp => k p _ G _ (.own s hp) hp (s.no hp) upd_same ⟨_, rfl, h4⟩⟩
theorem v_lstOfT {r : Rep α} : VF K (rListOf K) (aOne (rd (oT r))) (oL r) gId := fun G H v a b Q s ⟨x, h0, L, ho, h1, h2, vs, h3, h4⟩ hg k => by
  cases hg; subst h0 h1 h3
  exact ⟨L, vs, rfl, .inr (sqt_h h2), fun p hp => k p _ G _ (.own s hp) hp (s.no hp) upd_same ⟨_, rfl, h4⟩⟩
/-- list(range(n)), tuple(range(n)) -/
theorem rgV_rng (a b : Int) : rgV a b = (rng a b).map V.int := by
  unfold rgV rng
  rw [List.map_map]
  rfl
def gRg (n : Int) : Option (List Int) := if 0 ≤ n ∧ n ≤ 1000000 then some (rng 0 n) else none
theorem x_lstRg {ε : Type} {M : Mx} {R : ERep ε} {t : TE} {m : ε → Rs ε Int} (h : EX M R t (is (ir rI)) m) : EX M R (tLstRg (tRg1 t)) (fs (oL rI)) (mUn gRg m) :=
  x_unF (t := t) (T := fun (x : V) (H : Hp) (Q : VK) => ∃ n, x = .int n ∧ RgOk 0 n ∧ ∀ q, H q = none → Q (.ref q) (upd H q (.lst (rgV 0 n)))) (fun G H v a b Q s h1 hg k => by
    obtain ⟨hz, rfl⟩ := of_ite hg
    refine ⟨a, h1, ⟨by decide, by decide, by omega, by omega, by omega⟩, fun p hp => k p _ G _ (.own s hp) hp (s.no hp) upd_same ⟨_, rfl, ?_⟩⟩
    rw [rgV_rng]
    exact .ofMap fun _ _ => rfl) h
/-- xs[::-1] -/
def gRev (xs : List α) : Option (List α) := some xs.reverse
theorem x_revL {ε : Type} {M : Mx} {R : ERep ε} {t : TE} {r : Rep α} {m : ε → Rs ε (List α)} (h : EX M R t (is (rd (oL r))) m) : EX M R (tRevL M.K t) (fs (oL r)) (mUn gRev m) :=
  x_unF (t := t) (T := fun (x : V) (H : Hp) (Q : VK) => ∃ a xs, x = .ref a ∧ SqL M.K H a xs ∧ ∀ p, H p = none → Q (.ref p) (upd H p (.lst xs.reverse))) (fun G H v a b Q s ⟨L, ho, h1, h2, vs, h3, h4⟩ hg k => by
    subst h1 h3; cases hg
    exact ⟨L, vs, rfl, sql_h h2, fun p hp => k p _ G _ (.own s hp) hp (s.no hp) upd_same ⟨_, rfl, h4.rev⟩⟩) h
def gIn [DecidableEq α] (a : α) (xs : List α) : Option Bool := some (decide (a ∈ xs))
def gNin [DecidableEq α] (a : α) (xs : List α) : Option Bool := some (!decide (a ∈ xs))
theorem ints_of {G : Hp} {vs : List V} {ns : List Int} (h : A2 (rI.rel K G) vs ns) : vs = ns.map V.int := A2.eqMap h
theorem v_inTI : VR2 K (rIn K false) (ir rI) (rd (oT rI)) rB gIn := fun G H v w a b c Q s h1 ⟨L, ho, h2, h3, vs, h4, h5⟩ hg k => by
  subst h2 h4; cases h1; cases hg
  obtain rfl := ints_of h5
  exact ⟨L, _, rfl, .inr (sqt_h h3), rfl, flat_ints b, by rw [if_neg (by decide), inV_int]; exact k _ G H (.refl s) rfl⟩
theorem v_ninTI : VR2 K (rIn K true) (ir rI) (rd (oT rI)) rB gNin := fun G H v w a b c Q s h1 ⟨L, ho, h2, h3, vs, h4, h5⟩ hg k => by
  subst h2 h4; cases h1; cases hg
  obtain rfl := ints_of h5
  exact ⟨L, _, rfl, .inr (sqt_h h3), rfl, flat_ints b, by rw [if_pos rfl, inV_int]; exact k _ G H (.refl s) rfl⟩
end
section
variable {K : PySem.W.Frag} {α β γ ε ρ : Type} {w : World} {P : Program}
structure En (α : Type) where
  enc : α → PyData
  lay : ∀ a, (enc a).canLay0 = true
  dn : Nat
  dep : ∀ a, (enc a).depth ≤ dn
def EnEq [DecidableEq α] (E : En α) : Prop := ∀ a b, PyData.eqv (E.enc a) (E.enc b) = decide (a = b)
def Da (i : IR V α) (E : En α) : Prop := ∀ K G H v a, Sub G H → i K G H v a → Dp K H v (E.enc a)
theorem En.shaped (E : En α) (h : E.dn ≤ 60) (a : α) : SeqAt.shaped (E.enc a) = true := by
  unfold SeqAt.shaped
  rw [E.lay, Bool.true_and]
  exact decide_eq_true (Nat.le_trans (E.dep a) (by omega))
def enI : En Int := ⟨.int, fun _ => by simp [PyData.canLay0], 0, fun _ => by simp [PyData.depth]⟩
theorem layAll {xs : List PyData} (h : ∀ x ∈ xs, x.canLay0 = true) : PyData.canLayAll0 xs = true := by
  induction xs with
  | nil => simp [PyData.canLayAll0]
  | cons x xs ih =>
    simp only [PyData.canLayAll0, h x List.mem_cons_self, ih fun y hy => h y (List.mem_cons_of_mem _ hy), Bool.and_true]
def enL (E : En α) : En (List α) := ⟨fun xs => .list (xs.map E.enc), fun xs => by
    unfold PyData.canLay0
    exact layAll fun x hx => by obtain ⟨y, _, rfl⟩ := List.mem_map.mp hx; exact E.lay y, E.dn + 1, fun xs => by
    have := depthAll_le (m := E.dn) (xs := xs.map E.enc) fun x hx => by obtain ⟨y, _, rfl⟩ := List.mem_map.mp hx; exact E.dep y
    simp only [PyData.depth]
    omega⟩
def enT (E : En α) : En (List α) := ⟨fun xs => .tuple (xs.map E.enc), fun xs => by
    unfold PyData.canLay0
    exact layAll fun x hx => by obtain ⟨y, _, rfl⟩ := List.mem_map.mp hx; exact E.lay y, E.dn + 1, fun xs => by
    have := depthAll_le (m := E.dn) (xs := xs.map E.enc) fun x hx => by obtain ⟨y, _, rfl⟩ := List.mem_map.mp hx; exact E.dep y
    simp only [PyData.depth]
    omega⟩
def enO (E : En α) : En (Option α) := ⟨fun o => match o with | none => .none | some a => E.enc a, fun o => by
    cases o with
    | none => simp [PyData.canLay0]
    | some a => exact E.lay a, E.dn, fun o => by
    cases o with
    | none => simp [PyData.depth]
    | some a => exact E.dep a⟩
theorem da_I : Da (ir rI) enI := fun K G H v a s h => by cases h; exact .int a
theorem dpAll {r : Rep α} {E : En α} (d : Da (ir r) E) {G H : Hp} {vs : List V} {as : List α} (s : Sub G H) (h : A2 (r.rel K G) vs as) : DpAll K H vs (as.map E.enc) := by
  induction h with
  | nil => exact .nil
  | cons h _ ih => exact .cons (d _ _ _ _ _ s h) ih
theorem da_Lr {r : Rep α} {E : En α} (d : Da (ir r) E) : Da (rd (oL r)) (enL E) := fun K G H v a s ⟨L, ho, h1, h2, vs, h3, h4⟩ => by
  subst h1 h3
  exact .lst (sql_h h2) (dpAll d s h4)
theorem da_Tr {r : Rep α} {E : En α} (d : Da (ir r) E) : Da (rd (oT r)) (enT E) := fun K G H v a s ⟨L, ho, h1, h2, vs, h3, h4⟩ => by
  subst h1 h3
  exact .tup (sqt_h h2) (dpAll d s h4)
theorem Da.z {q : ORep α} {E : En α} (d : Da (rd q) E) : Da (ir (rz q)) E := fun K G H v a s h => d K G H v a s (Cv.ob _ _ _ _ _ s h)
theorem da_T {r : Rep α} {E : En α} (d : Da (ir r) E) : Da (ir (rT r)) (enT E) := (da_Tr d).z
theorem da_O {r : Rep α} {E : En α} (d : Da (ir r) E) : Da (ir (rO r)) (enO E) := fun K G H v a s h => by
  cases a with
  | none => rw [show v = .non from h]; exact .non
  | some x => exact d _ _ _ _ _ s h.2
theorem eq_I : EnEq enI := fun a b => by simp [enI, PyData.eqv]; rfl
theorem eqvAll_map [DecidableEq α] {E : En α} (h : EnEq E) : ∀ xs ys : List α, PyData.eqvAll (xs.map E.enc) (ys.map E.enc) = decide (xs = ys)
  | [], [] => by simp [PyData.eqvAll]
  | [], _ :: _ => by simp [PyData.eqvAll]
  | _ :: _, [] => by simp [PyData.eqvAll]
  | x :: xs, y :: ys => by
    simp only [List.map_cons, PyData.eqvAll, h x y, eqvAll_map h xs ys]
    rw [Bool.eq_iff_iff]
    simp
theorem eq_L [DecidableEq α] {E : En α} (h : EnEq E) : EnEq (enL E) := fun xs ys => by simp only [enL, PyData.eqv]; exact eqvAll_map h xs ys
theorem eq_T [DecidableEq α] {E : En α} (h : EnEq E) : EnEq (enT E) := fun xs ys => by simp only [enT, PyData.eqv]; exact eqvAll_map h xs ys
theorem v_neD [DecidableEq α] {i i' : IR V α} {E : En α} (d : Da i E) (d' : Da i' E) (h : EnEq E) (hn : E.dn ≤ 60) : VR2 K (rNeD K) i i' rB gNe := fun G H v w a b c Q s h1 h2 hg k => by
  cases hg
  exact ⟨_, _, d _ _ _ _ _ s h1, d' _ _ _ _ _ s h2, E.shaped hn a, E.shaped hn b, by rw [h]; exact k _ G H (.refl s) rfl⟩
theorem any_enc [DecidableEq α] {E : En α} (h : EnEq E) (a : α) : ∀ xs : List α, ((xs.map E.enc).any fun z => PyData.eqv z (E.enc a)) = decide (a ∈ xs)
  | [] => by simp
  | x :: xs => by
    rw [List.map_cons, List.any_cons, any_enc h a xs, h]
    by_cases e : x = a
    · subst e
      rw [decide_eq_true rfl, Bool.true_or, decide_eq_true List.mem_cons_self]
    · have e' : ¬ a = x := fun z => e z.symm
      rw [decide_eq_false e, Bool.false_or]
      exact decide_eq_decide.mpr ⟨fun m => List.mem_cons_of_mem _ m, fun m => (List.mem_cons.mp m).elim (fun z => absurd z e') id⟩
theorem v_inD [DecidableEq α] {i : IR V α} {i' : IR V (List α)} {E : En α} (d : Da i E) (d' : Da i' (enL E)) (h : EnEq E) (hn : E.dn ≤ 59) : VR2 K (rInD K) i i' rB gIn := fun G H v w a b c Q s h1 h2 hg k => by
  cases hg
  exact ⟨_, _, d _ _ _ _ _ s h1, d' _ _ _ _ _ s h2, E.shaped (by omega) a, (enL E).shaped (by show E.dn + 1 ≤ 60; omega) b, by rw [any_enc h]; exact k _ G H (.refl s) rfl⟩
/-- repr of a list or a tuple -/
def rpOk (d : PyData) : Bool := small 80 d && decide (cost 80 d ≤ 16777216)
def gRepr (E : En α) (a : α) : Option Str := if rpOk (E.enc a) = true then some (E.enc a).shown else none
theorem bools_of {G : Hp} {vs : List V} {ns : List Bool} (h : A2 (rB.rel K G) vs ns) : vs = ns.map V.bl := A2.eqMap h
def gAll (bs : List Bool) : Option Bool := some (bs.all id)
def gAny (bs : List Bool) : Option Bool := some (bs.any id)
def gSum (ns : List Int) : Option Int := some ns.sum
theorem v_all : VR K (rAll K) (aOne (rd (oL rB))) rB gAll := fun G H v a b Q s ⟨x, h0, L, ho, h1, h2, vs, h3, h4⟩ hg k => by
  cases hg; subst h0 h1 h3
  obtain rfl := bools_of h4
  exact ⟨L, a, rfl, sql_h h2, k _ G H (.refl s) rfl⟩
/-- the greatest of some numbers -/
def maxL : List Int → Int
  | [] => 0
  | [x] => x
  | x :: y :: xs => max x (maxL (y :: xs))
def gMax (ns : List Int) : Option Int := if 0 < ns.length then some (maxL ns) else none
def absI (i : Int) : Int := if i < 0 then -i else i
theorem absI_nonneg (i : Int) : 0 ≤ absI i := by unfold absI; split <;> omega
def gAbs (i : Int) : Option Int := some (absI i)
theorem v_abs : VR K rAbs (aOne (ir rI)) rI gAbs := fun G H v a b Q s ⟨x, h0, h1⟩ hg k => by
  cases hg; cases h1; subst h0
  exact ⟨a, rfl, k _ G H (.refl s) rfl⟩
def gIntB (b : Bool) : Option Int := some (if b = true then 1 else 0)
theorem v_intB : VR K rIntB (aOne (ir rB)) rI gIntB := fun G H v a b Q s ⟨x, h0, h1⟩ hg k => by
  cases hg; cases h1; subst h0
  exact w_intB (k _ G H (.refl s) rfl)
/-- sorted(xs) of numbers -/
def srt (ns : List Int) : List Int := ns.mergeSort leI
theorem srt_perm (ns : List Int) : (srt ns).Perm ns := List.mergeSort_perm _ _
theorem srt_pw (ns : List Int) : (srt ns).Pairwise (· ≤ ·) :=
  (List.pairwise_mergeSort (le := leI) (fun a b c h1 h2 => by simp only [leI, decide_eq_true_eq] at *; omega) (fun a b => by simp only [leI, Bool.or_eq_true, decide_eq_true_eq]; omega) ns).imp fun h => of_decide_eq_true h
theorem srt_eq {ns ms : List Int} (p : ms.Perm ns) (h : ms.Pairwise (· ≤ ·)) : ms = srt ns :=
  List.Perm.eq_of_pairwise (fun x y _ _ h1 h2 => Int.le_antisymm h1 h2) h (srt_pw ns) (p.trans (srt_perm ns).symm)
def gSort (ns : List Int) : Option (List Int) := if ns.length ≤ 1000000 then some (srt ns) else none
theorem v_sortL : VF K (rSortedI K) (aOne (rd (oL rI))) (oL rI) gSort := fun G H v a b Q s ⟨x, h0, L, ho, h1, h2, vs, h3, h4⟩ hg k => by
  subst h0 h1 h3
  obtain ⟨hz, rfl⟩ := of_ite hg
  obtain rfl := ints_of h4
  refine ⟨L, a, rfl, sql_h h2, fun ns' p pm pw hp => ?_⟩
  rw [srt_eq pm pw]
  exact k p _ G _ (.own s hp) hp (s.no hp) upd_same ⟨_, rfl, .ofMap fun _ _ => rfl⟩
def gSet (ns : List Int) : Option (List Int) := if ns.length ≤ 1000 then some ns else none
/-- rising, each once -/
def insS (x : Int) : List Int → List Int
  | [] => [x]
  | y :: ys => if x < y then x :: y :: ys else if x = y then y :: ys else y :: insS x ys
def sset (ns : List Int) : List Int := ns.foldr insS []
def gSset (ns : List Int) : Option (List Int) := if ns.length < 64 then some (sset ns) else none
def VM (K : PySem.W.Frag) (T : V → List V → Hp → VK → Prop) (q : ORep γ) (ra : GR (List V) α) (r : Rep β) (g : γ → α → Option (β × γ)) : Prop :=
  ∀ G H L ho st vs a b st' Q, Sub G H → H L = some ho → G L = none → q.rel K G ho st → ra.rel K G vs a → g st a = some (b, st') → (∀ v ho', q.rel K G ho' st' → r.rel K G v b → Q v (upd H L ho')) → T (.ref L) vs H Q
def Ty (T : String) (q : ORep γ) : Prop := ∀ K G H L ho st, H L = some ho → q.rel K G ho st → tyV K T (.ref L) H
theorem IV.put {F : Frm} {G H : Hp} {L : Addr} {ho ho' : HO} {own : Frm → Addr → Prop} (oq : OwnQ own) (i : IV F G H) (h : H L = some ho) (g : G L = none) (o : own F L) (nt : ∀ xs, ho' ≠ .tup xs) : IV F G (upd H L ho') := by
  obtain ⟨o1, o2, o3⟩ := oq F L o
  refine ⟨fun b u e => ?_, i.g0, i.new, fun b u hb hu => ?_, fun b hb => ?_, fun b u e => ?_, i.xg, fun b u e => ?_, i.yg, i.tp.put nt⟩
  · rw [upd_ne (fun z => by rw [z, g] at e; cases e)]; exact i.gh b u e
  · rw [upd_ne (fun z => by subst z; rcases o1 with o1 | o1; rw [o1] at hu; cases hu; exact hb o1)]; exact i.fr b u hb hu
  · by_cases z : b = L
    · subst z; rw [upd_same]; intro z; cases z
    · rw [upd_ne z]; exact i.al b hb
  · rw [upd_ne (fun z => by rw [z, o2] at e; cases e)]; exact i.xs b u e
  · rw [upd_ne (fun z => by rw [z, o3] at e; cases e)]; exact i.ys b u e
def NT (q : ORep γ) : Prop := ∀ K G ho a, q.rel K G ho a → ∀ xs, ho ≠ .tup xs
theorem nt_L {r : Rep α} : NT (oL r) := fun K G ho a ⟨vs, h, _⟩ xs e => by rw [h] at e; cases e
theorem nt_L3 {r : Rep α} {r' : Rep β} {r'' : Rep γ} : NT (oL3 r r' r'') := fun K G ho a ⟨_, _, _, h, _⟩ xs e => by rw [h] at e; cases e
def mBM (l : Ln ε γ) (g : γ → α → Option (β × γ)) (m : ε → Rs ε α) : ε → Rs ε β := fun e => match l.get e with
  | none => .bad
  | some _ => (m e).bind fun a e1 => match l.get e1 with
    | none => .bad
    | some st => match g st a with
      | none => .bad
      | some (b, st') => .ok b (l.put (some st') (l.put none e1))
variable {M : Mx} {R : ERep ε}
theorem x_bm {n : Nat} {own : Frm → Addr → Prop} {l : Ln ε γ} {q : ORep γ} {Tn : String} {T : V → List V → Hp → VK → Prop} {t : TA} {ra : GR (List V) α} {r : Rep β} {g : γ → α → Option (β × γ)} {m : ε → Rs ε α}
    (vm : VM M.K T q ra r g) (ty : Ty Tn q) (nt : NT q) (oq : OwnQ own) (at' : OwAt R n own q l) (h : EX M R t (fz ra) m) : EX M R (tBM M.K Tn T (tVar n) t) (fz r) (mBM l g m) := fun F G H σ e i hR Q p => by
  unfold mBM at p
  cases h0 : l.get e with
  | none => rw [h0] at p; exact p.elim
  | some st0 =>
    rw [h0] at p
    obtain ⟨L0, ho0, h1, h1b, _, _, h1c, _⟩ := at'.rd hR h0
    refine ⟨_, h1, ty _ _ _ _ _ _ h1b h1c, h F G H σ e i hR _ (p.bind fz_h fun vs a e1 G1 H1 i1 s1 R1 r1 p1 => ?_)⟩
    cases h2 : l.get e1 with
    | none => rw [h2] at p1; exact p1.elim
    | some st =>
      rw [h2] at p1
      obtain ⟨L, hob, h3, h4, h5, h6, h7, h8⟩ := at'.rd R1 h2
      rw [h1] at h3
      cases h3
      dsimp only at p1
      cases hg : g st a with
      | none => rw [hg] at p1; exact p1.elim
      | some bs =>
        obtain ⟨b, st'⟩ := bs
        rw [hg] at p1
        exact vm G1 H1 L0 hob st vs a b st' Q i1.gh h4 h5 h7 r1.1 hg fun v ho' hq hr => p1 v G1 _ _ (i1.put oq h4 h5 h6 (nt _ _ _ _ hq)) .refl ⟨hr, rfl⟩ (at'.bk (by rw [hide_upd]; exact h8) h1 upd_same h5 h6 hq)
def mBM0 (l : Ln ε γ) (g : γ → Unit → Option (β × γ)) : ε → Rs ε β := mBM l g (mC ())
theorem ty_L {r : Rep α} : Ty "list" (oL r) := fun K G H L ho st h ⟨vs, h1, _⟩ => by subst h1; exact .inl ⟨rfl, _, sql_h h⟩
/-- xs.append(y), insert, pop, extend, reverse -/
def gApp (xs : List α) (y : α) : Option (Unit × List α) := if xs.length < 1000000 then some ((), xs ++ [y]) else none
theorem v_app {r : Rep α} : VM K rAppend (oL r) (gOne r) rN gApp := fun G H L ho st vs a b st' Q s h1 h2 ⟨ws, h3, h4⟩ ⟨v, h5, h6⟩ hg k => by
  subst h3 h5
  obtain ⟨hz, e⟩ := of_ite hg
  cases e
  exact ⟨L, ws, v, rfl, rfl, h1, by rw [h4.length, sizeLine_eq]; omega, k _ _ ⟨_, rfl, h4.app (.cons h6 .nil)⟩ rfl⟩
def gIns (xs : List α) (p : Int × α) : Option (Unit × List α) := if xs.length < 1000000 ∧ 0 ≤ p.1 ∧ p.1 < 2 ^ 62 then some ((), xs.take p.1.toNat ++ [p.2] ++ xs.drop p.1.toNat) else none
def gPopAt (xs : List α) (i : Int) : Option (α × List α) := if 0 ≤ i ∧ i < 2 ^ 62 then (xs[i.toNat]?).map fun x => (x, xs.eraseIdx i.toNat) else none
theorem v_popAt {r : Rep α} : VM K rPopAt (oL r) (gOne rI) r gPopAt := fun G H L ho st vs a b st' Q s h1 h2 ⟨ws, h3, h4⟩ ⟨v, h5, h6⟩ hg k => by
  subst h3 h5
  rw [show v = .int a from h6]
  unfold gPopAt at hg
  split at hg
  · next hz =>
    cases e : st[a.toNat]? with
    | none => rw [e] at hg; cases hg
    | some x =>
      rw [e] at hg
      cases hg
      obtain ⟨y, hy, hr⟩ := h4.get e
      have hl : a.toNat < ws.length := (List.getElem?_eq_some_iff.mp hy).1
      refine ⟨L, ws, a, a.toNat, y, rfl, rfl, h1, by omega, by omega, ?_, hy, k _ _ ⟨_, rfl, h4.eraseIdx⟩ hr⟩
      unfold seqIndex?
      simp only [show ¬ (a < 0) by omega, if_false]
      rw [if_pos (by simp; omega)]
  · cases hg
def gExt (xs ys : List α) : Option (Unit × List α) := if xs.length + ys.length ≤ 1000000 then some ((), xs ++ ys) else none
def gRevM (xs : List α) (_ : Unit) : Option (Unit × List α) := some ((), xs.reverse)
def VS (K : PySem.W.Frag) (T : TSet) (q : ORep γ) (ri : Rep α) (r : Rep β) (g : γ → α → β → Option γ) : Prop :=
  ∀ G H L ho st i x v y st' Q, Sub G H → H L = some ho → G L = none → q.rel K G ho st → ri.rel K G i x → r.rel K G v y → g st x y = some st' → (∀ ho', q.rel K G ho' st' → Q (upd H L ho')) → T (.ref L) i v H Q
def mSetI (l : Ln ε γ) (g : γ → α → β → Option γ) (mi : ε → Rs ε α) (m : ε → Rs ε β) : ε → So ε ρ := fun e => (m e).so fun y e1 => match l.get e1 with
  | none => .bad
  | some _ => (mi e1).so fun x e2 => match l.get e2 with
    | none => .bad
    | some st => match g st x y with
      | none => .bad
      | some st' => .nx (l.put (some st') (l.put none e2))
theorem s_setI {n : Nat} {own : Frm → Addr → Prop} {l : Ln ε γ} {q : ORep γ} {T : TSet} {te ti : TE} {ri : Rep α} {r : Rep β} {g : γ → α → β → Option γ} {m : ε → Rs ε β} {mi : ε → Rs ε α} {rr : RS V ρ}
    (vs : VS M.K T q ri r g) (nt : NT q) (oq : OwnQ own) (at' : OwAt R n own q l) (h : EX M R te (fz r) m) (hi : EX M R ti (fz ri) mi) : SX M R rr (tAsg te (gSub (tVar n) ti T)) (mSetI l g mi m) := fun F G H σ e i hR D p =>
  h F G H σ e i hR _ (p.so fun v y e1 G1 H1 H1' i1 s1 hr R1 p1 => by
    rw [hr.2] at R1
    cases h0 : l.get e1 with
    | none => rw [h0] at p1; exact p1.elim
    | some st0 =>
      rw [h0] at p1
      obtain ⟨L0, ho0, h1, _⟩ := at'.rd R1 h0
      refine ⟨_, h1, hi F G1 H1 σ e1 i1 R1 _ (p1.so fun iv x e2 G2 H2 H2' i2 s2 hr2 R2 p2 => ?_)⟩
      rw [hr2.2] at R2
      cases h2 : l.get e2 with
      | none => rw [h2] at p2; exact p2.elim
      | some st =>
        rw [h2] at p2
        obtain ⟨L, hob, h3, h4, h5, h6, h7, h8⟩ := at'.rd R2 h2
        rw [h1] at h3
        cases h3
        dsimp only at p2
        cases hg : g st x y with
        | none => rw [hg] at p2; exact p2.elim
        | some st' =>
          rw [hg] at p2
          exact vs G2 H2 L0 hob st iv x v y st' _ i2.gh h4 h5 h7 hr2.1 (r.mono s2 hr.1) hg fun ho' hq => p2 σ G2 _ (i2.put oq h4 h5 h6 (nt _ _ _ _ hq)) .refl (at'.bk (by rw [hide_upd]; exact h8) h1 upd_same h5 h6 hq))
def gSet31 (p : α × β × γ) (i : Int) (y : β) : Option (α × β × γ) := if i = 1 then some (p.1, y, p.2.2) else none
def gSet32 (p : α × β × γ) (i : Int) (y : γ) : Option (α × β × γ) := if i = 2 then some (p.1, p.2.1, y) else none
theorem v_set31 {r : Rep α} {r' : Rep β} {r'' : Rep γ} : VS K rSetL (oL3 r r' r'') rI r' gSet31 := fun G H L ho st i x v y st' Q s h1 h2 ⟨a, b, c, h3, h4, h5, h6⟩ hi hv hg k => by
  subst h3
  obtain ⟨rfl, rfl⟩ := of_ite hg
  rw [show i = .int 1 from hi]
  exact ⟨L, _, 1, 1, rfl, rfl, h1, rfl, k _ ⟨a, v, c, rfl, h4, hv, h6⟩⟩
theorem v_set32 {r : Rep α} {r' : Rep β} {r'' : Rep γ} : VS K rSetL (oL3 r r' r'') rI r'' gSet32 := fun G H L ho st i x v y st' Q s h1 h2 ⟨a, b, c, h3, h4, h5, h6⟩ hi hv hg k => by
  subst h3
  obtain ⟨rfl, rfl⟩ := of_ite hg
  rw [show i = .int 2 from hi]
  exact ⟨L, _, 2, 2, rfl, rfl, h1, rfl, k _ ⟨a, b, v, rfl, h4, h5, hv⟩⟩
end
section
variable {K : PySem.W.Frag} {α β γ ε ρ κ : Type} {w : World} {P : Program}
section
variable [DecidableEq κ]
def dget (kbs : List (κ × β)) (k : κ) : Option β := (kbs.find? fun kv => decide (kv.1 = k)).map (·.2)
def dput (kbs : List (κ × β)) (k : κ) (b : β) : List (κ × β) := if (kbs.any fun kv => decide (kv.1 = k)) = true then kbs.map (fun kv => if kv.1 = k then (kv.1, b) else kv) else kbs ++ [(k, b)]
def ddel (kbs : List (κ × β)) (k : κ) : List (κ × β) := kbs.filter fun kv => decide (kv.1 ≠ k)
end
/-- how keys are written -/
structure KeyR (κ κ' : Type) where
  f : κ → κ'
  inj : ∀ a b, f a = f b → a = b
def kTup : KeyR (List Int) (List Key) := ⟨fun ns => ns.map Sum.inl, fun a b h => by
  have : ∀ {a b : List Int}, a.map (Sum.inl : Int → Key) = b.map Sum.inl → a = b := by
    intro a
    induction a with
    | nil => intro b h; cases b with
      | nil => rfl
      | cons _ _ => cases h
    | cons x xs ih => intro b h; cases b with
      | nil => cases h
      | cons y ys =>
        simp only [List.map_cons, List.cons.injEq, Sum.inl.injEq] at h
        rw [h.1, ih h.2]
  exact this h⟩
def kInt : KeyR Int Key := ⟨Sum.inl, fun a b h => Sum.inl.inj h⟩
def DR {κ' : Type} (kr : KeyR κ κ') (r : Rep β) (K : PySem.W.Frag) (G : Hp) : List (κ' × V) → List (κ × β) → Prop := A2 fun p q => p.1 = kr.f q.1 ∧ r.rel K G p.2 q.2
section
variable {κ' : Type} [DecidableEq κ] [DecidableEq κ'] {kr : KeyR κ κ'} {r : Rep β} {G : Hp} {kvs : List (κ' × V)} {kbs : List (κ × β)}
theorem key_iff {k k' : κ} : (kr.f k' = kr.f k) ↔ k' = k := ⟨kr.inj _ _, fun h => by rw [h]⟩
theorem DR.get (h : DR kr r K G kvs kbs) (k : κ) : match dget kbs k with
    | none => valV kvs (kr.f k) = none
    | some b => ∃ v, valV kvs (kr.f k) = some v ∧ r.rel K G v b := by
  unfold dget valV
  induction h with
  | nil => rfl
  | @cons p q ps qs hh _ ih =>
    rw [List.find?_cons, List.find?_cons]
    by_cases e : q.1 = k
    · have e1 : decide (p.1 = kr.f k) = true := decide_eq_true (by rw [hh.1, e])
      have e2 : decide (q.1 = k) = true := decide_eq_true e
      simp only [e1, e2, Option.map_some]
      exact ⟨_, rfl, hh.2⟩
    · have e1 : decide (p.1 = kr.f k) = false := decide_eq_false (by rw [hh.1, key_iff]; exact e)
      have e2 : decide (q.1 = k) = false := decide_eq_false e
      simp only [e1, e2]
      exact ih
theorem DR.any (h : DR kr r K G kvs kbs) (k : κ) : (kvs.any fun kv => decide (kv.1 = kr.f k)) = kbs.any fun kv => decide (kv.1 = k) := by
  induction h with
  | nil => rfl
  | @cons p q ps qs hh _ ih =>
    rw [List.any_cons, List.any_cons, ih, hh.1]
    congr 1
    exact decide_eq_decide.mpr key_iff
theorem DR.put (h : DR kr r K G kvs kbs) {k : κ} {v : V} {b : β} (hv : r.rel K G v b) : DR kr r K G (putK kvs (kr.f k) v) (dput kbs k b) := by
  unfold putK dput
  rw [h.any k]
  split
  · have : ∀ {kvs : List (κ' × V)} {kbs : List (κ × β)}, DR kr r K G kvs kbs → DR kr r K G (kvs.map fun kv => if kv.1 = kr.f k then (kv.1, v) else kv) (kbs.map fun kv => if kv.1 = k then (kv.1, b) else kv) := fun h => by
      induction h with
      | nil => exact .nil
      | @cons p q ps qs hh _ ih =>
        refine .cons ?_ ih
        dsimp only
        by_cases e : q.1 = k
        · rw [if_pos e, if_pos (by rw [hh.1, e])]
          exact ⟨hh.1, hv⟩
        · rw [if_neg e, if_neg (by rw [hh.1, key_iff]; exact e)]
          exact hh
    exact this h
  · exact A2.app h (.cons ⟨rfl, hv⟩ .nil)
end
theorem DR.mono {κ' : Type} {kr : KeyR κ κ'} {r : Rep β} {G G' : Hp} {kvs : List (κ' × V)} {kbs : List (κ × β)} (s : Sub G G') (h : DR kr r K G kvs kbs) : DR kr r K G' kvs kbs := A2.mono h fun _ _ h => ⟨h.1, r.mono s h.2⟩
def oDI (r : Rep β) : ORep (List (Int × β)) := ⟨fun K G ho kbs => ∃ kvs, ho = .dK kvs ∧ DR kInt r K G kvs kbs, fun s ⟨kvs, h1, h2⟩ => ⟨kvs, h1, h2.mono s⟩⟩
variable [DecidableEq κ] {q : ORep (List (κ × β))} {rk : Rep κ} {r : Rep β} {M : Mx} {R : ERep ε}
def dIn (k : κ) (kbs : List (κ × β)) : Option Bool := some (dget kbs k).isSome
def dNin (k : κ) (kbs : List (κ × β)) : Option Bool := some (!(dget kbs k).isSome)
/-- d.get(k, x) -/
def mDGet2 (l : Ln ε (List (κ × β))) (m : ε → Rs ε κ) (x : ε → Rs ε β) : ε → Rs ε β := fun e => match l.get e with
  | none => .bad
  | some _ => (m e).bind fun a e1 => (x e1).bind fun b e2 => (mVar l e2).bind fun kbs e3 => .ok ((dget kbs a).getD b) e3
/-- d[k] = v -/
def gDPut (kbs : List (κ × β)) (k : κ) (b : β) : Option (List (κ × β)) := if kbs.length < 1000000 then some (dput kbs k b) else none
theorem v_dputI {r : Rep β} : VS K rSetD (oDI r) rI r gDPut := fun G H L ho st i x v y st' Q s h1 h2 ⟨kvs, h3, h4⟩ h5 h6 hg k => by
  subst h3
  cases h5
  obtain ⟨hz, rfl⟩ := of_ite hg
  exact ⟨L, _, rfl, .inl ⟨kvs, Sum.inl x, h1, rfl, by rw [A2.length h4, sizeLine_eq]; omega, rfl⟩, k _ ⟨_, rfl, h4.put (kr := kInt) h6⟩⟩
theorem x_dnewK {r : Rep β} : EX M R tDNewK (fs (oDI r)) (mC []) := fun F G H σ e i hR Q p L hL => (Post.finF i hR p) L _ G _ (.own i.gh hL) hL (i.gh.no hL) upd_same ⟨[], rfl, .nil⟩
def keysOf (kbs : List (κ × β)) : List κ := kbs.map (·.1)
def mKeys (l : Ln ε (List (κ × β))) : ε → Rs ε (List κ) := fun e => (mVar l e).bind fun kbs e1 => .ok (keysOf kbs) e1
def mLock (l : Ln ε γ) (m : ε → Rs ε α) : ε → Rs ε α := fun e => match l.get e with
  | none => .bad
  | some x => match m (l.put (some x) e) with
    | .ok a e1 => .ok a (l.put (some x) (l.put none e1))
    | _ => .bad
/-- a list of one's own, walked: it stays meanwhile -/
theorem x_iLP {n : Nat} {l : Ln ε (List α)} {r : Rep α} (at' : PrAt R n (oL r) l) : EX M R (iList M.K (tVar n)) (walkS r) (mVar l) := fun F G H σ e i hR Q p => by
  obtain ⟨a, ha, p2⟩ := of_some p
  obtain ⟨L, ho, h1, h2, vs, rfl, h5⟩ := at'.rd hR ha
  have q : ∀ {G2 H2 : Hp}, IV F G2 H2 → SqL M.K H2 L vs := fun i2 => .inl (.inl (i2.ys _ _ h2))
  refine ⟨.ref L, h1, L, rfl, ⟨vs, q i⟩, p2 _ G H H i .refl ⟨fun k G2 H2 i2 s2 => ?_, rfl⟩ hR⟩
  refine ⟨fun hk => ⟨vs, q i2, by rw [h5.length]; exact hk⟩, fun x hx => ?_⟩
  obtain ⟨v, hv, hr⟩ := h5.get hx
  refine ⟨⟨vs, v, q i2, hv⟩, fun v' H'' hy => ?_⟩
  obtain ⟨rfl, hy⟩ := hy
  have := hy vs (q i2)
  rw [hv] at this
  cases this
  exact ⟨G2, .refl i2.gh, r.mono s2 hr⟩
theorem x_prot {n : Nat} {R' : ERep ε} {own : Frm → Addr → Prop} {l : Ln ε γ} {q : ORep γ} {t : TE} {q2 : ORep α} {m : ε → Rs ε α} (oq : OwnQ own) (at' : OwAt R n own q l) (sw : Sw R R' n q l) (h : EX M R' t (fs q2) m) :
    EX M R t (fs q2) (mLock l m) := fun F G H σ e i hR Q p => by
  unfold mLock at p
  cases h0 : l.get e with
  | none => rw [h0] at p; exact p.elim
  | some x =>
    rw [h0] at p
    obtain ⟨L, ho, h1, h2, h3, h4, h5, h6⟩ := at'.rd hR h0
    obtain ⟨o1, o2, o3⟩ := oq F L h4
    have iv : IV (F.lockY L ho) G H := ⟨i.gh, i.g0, i.new, i.fr, i.al, i.xs, i.xg, upd_sub i.ys h2, fun b hb => (upd_some hb).elim (fun z => z ▸ h3) (i.yg b), i.tp⟩
    refine h (F.lockY L ho) G _ σ _ iv (sw.to (ho := ho) h6 h1 h5) _ ?_
    revert p
    dsimp only
    cases m (l.put (some x) e) with
    | bad => exact id
    | ex c e1 => exact fun p => p.elim
    | ok a e1 =>
      rintro p v G' H' H1 iv' s' ⟨L', ho', rfl, b1, b2, b3, b4, rfl⟩ R1
      have hL : H' L = some ho := iv'.ys _ _ upd_same
      have gL : G' L = none := iv'.yg _ (by show upd F.Y L _ L ≠ none; rw [upd_same]; intro z; cases z)
      have ne : L' ≠ L := fun z => by
        have := b3.2.2
        rw [z] at this
        exact nomatch (show some ho = none from upd_same.symm.trans this)
      have iF : IV F G' H' := ⟨iv'.gh, iv'.g0, iv'.new, iv'.fr, iv'.al, iv'.xs, iv'.xg, (sub_upd o3).trans iv'.ys, fun b hb => iv'.yg b ((sub_upd o3).ne hb), iv'.tp⟩
      refine p (.ref L') G' H' (hide H' L') iF s' ⟨L', ho', rfl, b1, b2, ⟨b3.1, b3.2.1, ?_⟩, b4, rfl⟩ ?_
      · exact (upd_ne ne).symm.trans b3.2.2
      · refine at'.bk (L := L) (ho := ho) ?_ h1 (by rw [hide_ne ne.symm]; exact hL) gL h4 (q.mono s' h5)
        rw [hide_comm]
        have := sw.bk R1
        rw [hide_comm] at this
        exact this
theorem x_powc {a b n : Int} (h : gPow a b = some n) : EX M R (tOp rPow (tC (.int a)) (tC (.int b))) (fz rI) (mC n) := fun F G H σ e i hR Q p =>
  v_pow (K := M.K) G H _ _ a b n Q i.gh rfl rfl h (Post.fin i hR p)
theorem nt_DI {r : Rep β} : NT (oDI r) := fun K G ho a ⟨_, h, _⟩ xs e => by rw [h] at e; cases e
theorem units1 {k : Nat} {A : PySem.Around} (r : Room k A) : A.units + 1 < PySem.cLine := by have := r.un; omega
def cx0 : Str → Addr := fun _ => 0
/-- never None -/
def NN (r : Rep α) : Prop := ∀ K G v a, r.rel K G v a → v ≠ .non
theorem nn_z {q : ORep α} : NN (rz q) := fun K G v a ⟨L, ho, h, _⟩ => by rw [h]; intro z; cases z
theorem nn_I : NN rI := fun K G v a h => by rw [show v = .int a from h]; intro z; cases z
def mSome (m : ε → Rs ε α) : ε → Rs ε (Option α) := fun e => (m e).bind fun a e1 => .ok (some a) e1
def mNone (m : ε → Rs ε Unit) : ε → Rs ε (Option α) := fun e => (m e).bind fun _ e1 => .ok none e1
theorem x_some {t : TE} {r : Rep α} {m : ε → Rs ε α} (nn : NN r) (h : EX M R t (fz r) m) : EX M R t (fz (rO r)) (mSome m) := fun F G H σ e i hR Q p =>
  h F G H σ e i hR _ (p.bind fz_h fun v a e1 G1 H1 i1 s1 R1 r1 p1 => p1 v G1 H1 H1 i1 .refl ⟨⟨nn _ _ _ _ r1.1, r1.1⟩, rfl⟩ R1)
theorem x_none {t : TE} {r : Rep α} {m : ε → Rs ε Unit} (h : EX M R t (fz rN) m) : EX M R t (fz (rO r)) (mNone m) := fun F G H σ e i hR Q p =>
  h F G H σ e i hR _ (p.bind fz_h fun v a e1 G1 H1 i1 s1 R1 r1 p1 => p1 v G1 H1 H1 i1 .refl ⟨r1.1, rfl⟩ R1)
end
section
variable {ε ε' α β γ ρ ι κ : Type}
/-- it comes to an end well, and Q holds of what it gives -/
def RsP0 (x : Rs ε α) (Q : α → ε → Prop) : Prop := match x with
  | .ok a e => Q a e | .ex _ _ => False | .bad => False
def SoP0 (x : So ε ρ) (N C B : ε → Prop) (T : ρ → ε → Prop) : Prop := match x with
  | .nx e => N e | .ct e => C e | .bk e => B e | .rt a e => T a e | .ex _ _ => False | .bad => False
def OpP0 (x : Option α) (Q : α → Prop) : Prop := match x with
  | some a => Q a | none => False
variable {Q : α → ε → Prop} {N C B : ε → Prop} {T : ρ → ε → Prop} {a : α} {e : ε}
theorem RsP0.imp {x : Rs ε α} {P Q : α → ε → Prop} (h : RsP0 x P) (k : ∀ a e, P a e → Q a e) : RsP0 x Q := by
  cases x with
  | ok a e => exact k a e h
  | ex c e => exact h
  | bad => exact h
theorem RsP0.ex {x : Rs ε α} (h : RsP0 x Q) : ∃ a e, x = .ok a e ∧ Q a e := by
  cases x with
  | ok a e => exact ⟨a, e, rfl, h⟩
  | ex c e => exact h.elim
  | bad => exact h.elim
theorem RsP0.of_eq {x : Rs ε α} (h : x = .ok a e) (q : Q a e) : RsP0 x Q := by rw [h]; exact q
theorem SoP0.imp {x : So ε ρ} {N N' C C' B B' : ε → Prop} {T T' : ρ → ε → Prop} (h : SoP0 x N C B T) (n : ∀ e, N e → N' e) (c : ∀ e, C e → C' e) (b : ∀ e, B e → B' e) (t : ∀ a e, T a e → T' a e) : SoP0 x N' C' B' T' := by
  cases x with
  | nx e => exact n e h
  | ct e => exact c e h
  | bk e => exact b e h
  | rt a e => exact t a e h
  | ex _ _ => exact h
  | bad => exact h
theorem rp_ok_0 : RsP0 (.ok a e) Q = Q a e := propext ⟨fun h => h, fun h => h⟩
theorem rp_bad_0 : RsP0 (.bad : Rs ε α) Q = False := propext ⟨fun h => h, fun h => h⟩
theorem rp_of_0 {o : Option α} : RsP0 (.of o e) Q = OpP0 o fun a => Q a e := by cases o <;> rfl
theorem op_some_0 {Q : α → Prop} : OpP0 (some a) Q = Q a := propext ⟨fun h => h, fun h => h⟩
theorem op_ite_0 {c : Prop} [Decidable c] {o : Option α} {Q : α → Prop} : OpP0 (if c then o else none) Q = (c ∧ OpP0 o Q) := by
  by_cases h : c
  · simp [h, OpP0]
  · simp [h, OpP0]
theorem rp_bind_0 {x : Rs ε β} {f : β → ε → Rs ε α} : RsP0 (x.bind f) Q = RsP0 x fun b e1 => RsP0 (f b e1) Q := by cases x <;> rfl
theorem rp_bindN_0 {x : Rs ε β} {f : β → ε → Rs ε α} : RsP0 (x.bindN f) Q = RsP0 x fun b e1 => RsP0 (f b e1) Q := by cases x <;> rfl
theorem rp_run_0 {x : Rs Unit α} : RsP0 (x.run e) Q = RsP0 x fun b _ => Q b e := by cases x <;> rfl
theorem rp_ite_0 {c : Prop} [Decidable c] {x y : Rs ε α} : RsP0 (if c then x else y) Q = if c then RsP0 x Q else RsP0 y Q := by split <;> rfl
theorem sp_nx_0 : SoP0 (.nx e : So ε ρ) N C B T = N e := propext ⟨fun h => h, fun h => h⟩
theorem sp_ct_0 : SoP0 (.ct e : So ε ρ) N C B T = C e := propext ⟨fun h => h, fun h => h⟩
theorem sp_bk_0 : SoP0 (.bk e : So ε ρ) N C B T = B e := propext ⟨fun h => h, fun h => h⟩
theorem sp_rt_0 {r : ρ} : SoP0 (.rt r e) N C B T = T r e := propext ⟨fun h => h, fun h => h⟩
theorem sp_so_0 {x : Rs ε α} {f : α → ε → So ε ρ} : SoP0 (x.so f) N C B T = RsP0 x fun a e1 => SoP0 (f a e1) N C B T := by cases x <;> rfl
theorem sp_ite_0 {c : Prop} [Decidable c] {x y : So ε ρ} : SoP0 (if c then x else y) N C B T = if c then SoP0 x N C B T else SoP0 y N C B T := by split <;> rfl
theorem sp_seq_0 {m n : ε → So ε ρ} : SoP0 (mSeq m n e) N C B T = SoP0 (m e) (fun e1 => SoP0 (n e1) N C B T) C B T := by unfold mSeq; cases m e <;> rfl
theorem sp_kill_0 {k : ε → ε} {m : ε → So ε ρ} : SoP0 (mKill k m e) N C B T = SoP0 (m e) (fun e1 => N (k e1)) (fun e1 => C (k e1)) (fun e1 => B (k e1)) T := by unfold mKill; cases m e <;> rfl
theorem sp_for_0 {m : ε → Rs ε (List α)} {pt : α → ε → ε} {b : ε → So ε ρ} : SoP0 (mFor m pt b e) N C B T = RsP0 (m e) fun xs e1 => SoP0 (mLoop (fun x e => b (pt x e)) xs e1) N C B T := by unfold mFor; rw [sp_so_0]
theorem sp_ret_0 {m : ε → Rs ε ρ} : SoP0 (mRet m e) N C B T = RsP0 (m e) T := by unfold mRet; rw [sp_so_0]; rfl
theorem sp_drop_0 {m : ε → Rs ε α} : SoP0 (mDrop m e : So ε ρ) N C B T = RsP0 (m e) fun _ e1 => N e1 := by unfold mDrop; rw [sp_so_0]; rfl
theorem sp_set_0 {l : Ln ε α} {m : ε → Rs ε α} : SoP0 (mSet l m e : So ε ρ) N C B T = RsP0 (m e) fun a e1 => N (l.put (some a) e1) := by unfold mSet; rw [sp_so_0]; rfl
theorem sp_asgN_0 {m : ε → Rs ε α} {pt : α → ε → ε} : SoP0 (mAsgN m pt e : So ε ρ) N C B T = RsP0 (m e) fun a e1 => N (pt a e1) := by unfold mAsgN; rw [sp_so_0]; rfl
theorem sp_if_0 {c : ε → Rs ε Bool} {m n : ε → So ε ρ} : SoP0 (mIfS c m n e) N C B T = RsP0 (c e) fun b e1 => if b = true then SoP0 (m e1) N C B T else SoP0 (n e1) N C B T := by
  unfold mIfS; rw [sp_so_0]; congr; funext b e1; exact sp_ite_0
theorem sp_next_0 : SoP0 (mNext e : So ε ρ) N C B T = N e := propext ⟨fun h => h, fun h => h⟩
theorem sp_mbk_0 : SoP0 (mBrk e : So ε ρ) N C B T = B e := propext ⟨fun h => h, fun h => h⟩
theorem sp_mct_0 : SoP0 (mCt e : So ε ρ) N C B T = C e := propext ⟨fun h => h, fun h => h⟩
theorem rp_un_0 {g : β → Option α} {m : ε → Rs ε β} : RsP0 (mUn g m e) Q = RsP0 (m e) fun b e1 => OpP0 (g b) fun a => Q a e1 := by unfold mUn; rw [rp_bind_0]; congr; funext b e1; exact rp_of_0
theorem rp_op_0 {g : β → γ → Option α} {m : ε → Rs ε β} {n : ε → Rs ε γ} : RsP0 (mOp g m n e) Q = RsP0 (m e) fun b e1 => RsP0 (n e1) fun c e2 => OpP0 (g b c) fun a => Q a e2 := by
  unfold mOp; rw [rp_bind_0]; congr; funext b e1; rw [rp_bind_0]; congr; funext c e2; exact rp_of_0
theorem rp_var_0 {l : Ln ε α} : RsP0 (mVar l e) Q = OpP0 (l.get e) fun a => Q a e := rp_of_0
theorem rp_move_0 {l : Ln ε α} : RsP0 (mMove l e) Q = OpP0 (l.get e) fun a => Q a (l.put none e) := rp_of_0
theorem rp_c_0 {a : α} : RsP0 (mC a e) Q = Q a e := propext ⟨fun h => h, fun h => h⟩
theorem rp_opL_0 {g : β → γ → Option α} {l : Ln ε β} {m : ε → Rs ε γ} : RsP0 (mOpL g l m e) Q = OpP0 (l.get e) fun _ => RsP0 (m e) fun c e1 => OpP0 (l.get e1) fun b => OpP0 (g b c) fun a => Q a e1 := by
  unfold mOpL
  cases l.get e with
  | none => rfl
  | some x =>
    simp only [rp_bind_0, OpP0]
    congr; funext c e1; rw [rp_var_0]; congr; funext b; exact rp_of_0
theorem rp_pair_0 {m : ε → Rs ε α} {n : ε → Rs ε β} {Q : α × β → ε → Prop} : RsP0 (mPair m n e) Q = RsP0 (m e) fun a e1 => RsP0 (n e1) fun b e2 => Q (a, b) e2 := by unfold mPair; rw [rp_bind_0]; congr; funext a e1; rw [rp_bind_0]; rfl
theorem rp_pairL_0 {l : Ln ε α} {n : ε → Rs ε β} {Q : α × β → ε → Prop} : RsP0 (mPairL l n e) Q = OpP0 (l.get e) fun _ => RsP0 (n e) fun b e1 => OpP0 (l.get e1) fun a => Q (a, b) e1 := by
  unfold mPairL
  cases l.get e with
  | none => rfl
  | some x =>
    simp only [rp_bind_0, OpP0]
    congr; funext c e1; rw [rp_var_0]; rfl
theorem rp_cons_0 {m : ε → Rs ε α} {n : ε → Rs ε (List α)} {Q : List α → ε → Prop} : RsP0 (mCons m n e) Q = RsP0 (m e) fun a e1 => RsP0 (n e1) fun b e2 => Q (a :: b) e2 := by unfold mCons; rw [rp_bind_0]; congr; funext a e1; rw [rp_bind_0]; rfl
theorem rp_call_0 {f : β → Rs Unit α} {m : ε → Rs ε β} : RsP0 (mCall f m e) Q = RsP0 (m e) fun b e1 => RsP0 (f b) fun a _ => Q a e1 := by unfold mCall; rw [rp_bind_0]; congr; funext b e1; exact rp_run_0
theorem rp_callI_0 {l : Ln ε ι} {f : ι → β → Rs ι α} {m : ε → Rs ε β} : RsP0 (mCallI l f m e) Q = OpP0 (l.get e) fun _ => RsP0 (m e) fun b e1 => OpP0 (l.get e1) fun s => RsP0 (f s b) fun a s' => Q a (l.put (some s') (l.put none e1)) := by
  unfold mCallI
  cases l.get e with
  | none => rfl
  | some x =>
    simp only [rp_bind_0, OpP0]
    congr; funext b e1
    cases l.get e1 with
    | none => rfl
    | some s => cases h : f s b <;> simp only [h] <;> rfl
theorem rp_bm_0 {l : Ln ε ι} {g : ι → β → Option (α × ι)} {m : ε → Rs ε β} : RsP0 (mBM l g m e) Q = OpP0 (l.get e) fun _ => RsP0 (m e) fun b e1 => OpP0 (l.get e1) fun s => OpP0 (g s b) fun p => Q p.1 (l.put (some p.2) (l.put none e1)) := by
  unfold mBM
  cases l.get e with
  | none => rfl
  | some x =>
    simp only [rp_bind_0, OpP0]
    congr; funext b e1
    cases l.get e1 with
    | none => rfl
    | some s => cases h : g s b <;> simp only [h] <;> rfl
theorem rp_bm0_0 {l : Ln ε ι} {g : ι → Unit → Option (α × ι)} : RsP0 (mBM0 l g e) Q = OpP0 (l.get e) fun _ => OpP0 (l.get e) fun s => OpP0 (g s ()) fun p => Q p.1 (l.put (some p.2) (l.put none e)) := rp_bm_0
theorem sp_setI_0 {l : Ln ε γ} {g : γ → α → β → Option γ} {mi : ε → Rs ε α} {m : ε → Rs ε β} : SoP0 (mSetI l g mi m e : So ε ρ) N C B T = RsP0 (m e) fun y e1 => OpP0 (l.get e1) fun _ => RsP0 (mi e1) fun x e2 => OpP0 (l.get e2) fun s => OpP0 (g s x y) fun s' => N (l.put (some s') (l.put none e2)) := by
  unfold mSetI
  rw [sp_so_0]; congr; funext y e1
  cases l.get e1 with
  | none => rfl
  | some s =>
    simp only [sp_so_0, OpP0]
    congr; funext x e2
    cases l.get e2 with
    | none => rfl
    | some s => cases h : g s x y <;> simp only [h] <;> rfl
theorem rp_not_0 {m : ε → Rs ε Bool} {Q : Bool → ε → Prop} : RsP0 (mNot m e) Q = RsP0 (m e) fun b e1 => Q (!b) e1 := by unfold mNot; rw [rp_bind_0]; rfl
theorem rp_and_0 {m n : ε → Rs ε Bool} {Q : Bool → ε → Prop} : RsP0 (mAnd m n e) Q = RsP0 (m e) fun b e1 => if b = true then RsP0 (n e1) Q else Q false e1 := by unfold mAnd; rw [rp_bind_0]; congr; funext b e1; exact rp_ite_0
theorem rp_or_0 {m n : ε → Rs ε Bool} {Q : Bool → ε → Prop} : RsP0 (mOr m n e) Q = RsP0 (m e) fun b e1 => if b = true then Q true e1 else RsP0 (n e1) Q := by unfold mOr; rw [rp_bind_0]; congr; funext b e1; exact rp_ite_0
theorem rp_if_0 {c : ε → Rs ε Bool} {m n : ε → Rs ε α} : RsP0 (mIf c m n e) Q = RsP0 (c e) fun b e1 => if b = true then RsP0 (m e1) Q else RsP0 (n e1) Q := by unfold mIf; rw [rp_bind_0]; congr; funext b e1; exact rp_ite_0
theorem rp_chain_0 {g : α → β → Option Bool} {g' : β → γ → Option Bool} {m : ε → Rs ε α} {n : ε → Rs ε β} {k : ε → Rs ε γ} {Q : Bool → ε → Prop} : RsP0 (mChain g g' m n k e) Q = RsP0 (m e) fun a e1 => RsP0 (n e1) fun b e2 => OpP0 (g a b) fun c => if c = true then RsP0 (k e2) fun d e3 => OpP0 (g' b d) fun z => Q z e3 else Q false e2 := by
  unfold mChain
  rw [rp_bind_0]; congr; funext a e1; rw [rp_bind_0]; congr; funext b e2; rw [rp_bind_0, rp_of_0]; congr; funext c; rw [rp_ite_0, rp_bind_0]
  split
  · congr; funext d e3; exact rp_of_0
  · rfl
theorem rp_mSome_0 {m : ε → Rs ε α} {Q : Option α → ε → Prop} : RsP0 (mSome m e) Q = RsP0 (m e) fun a e1 => Q (some a) e1 := by unfold mSome; rw [rp_bind_0]; rfl
theorem rp_mNone_0 {m : ε → Rs ε Unit} {Q : Option α → ε → Prop} : RsP0 (mNone m e) Q = RsP0 (m e) fun a e1 => Q none e1 := by unfold mNone; rw [rp_bind_0]; rfl
theorem rp_part_0 {m : ε → Rs ε Int} {Q : Option Int → ε → Prop} : RsP0 (mPart m e) Q = RsP0 (m e) fun a e1 => Q (some a) e1 := by unfold mPart; rw [rp_bind_0]; rfl
theorem rp_sl_0 {g : β → Option Int → Option Int → Option α} {m : ε → Rs ε β} {lo hi : ε → Rs ε (Option Int)} : RsP0 (mSl g m lo hi e) Q = RsP0 (m e) fun b e1 => RsP0 (lo e1) fun l e2 => RsP0 (hi e2) fun u e3 => OpP0 (g b l u) fun a => Q a e3 := by
  unfold mSl
  rw [rp_bind_0]; congr; funext b e1; rw [rp_bind_0]; congr; funext l e2; rw [rp_bind_0]; congr; funext u e3; exact rp_of_0
theorem rp_slL_0 {g : β → Option Int → Option Int → Option α} {l : Ln ε β} {lo hi : ε → Rs ε (Option Int)} : RsP0 (mSlL g l lo hi e) Q = OpP0 (l.get e) fun _ => RsP0 (lo e) fun l1 e2 => RsP0 (hi e2) fun u e3 => OpP0 (l.get e3) fun b => OpP0 (g b l1 u) fun a => Q a e3 := by
  unfold mSlL
  cases l.get e with
  | none => rfl
  | some x =>
    simp only [rp_bind_0, OpP0]
    congr; funext l1 e2; congr; funext u e3; rw [rp_var_0]; congr; funext b; exact rp_of_0
theorem rp_rng1_0 {m : ε → Rs ε Int} {Q : List Int → ε → Prop} : RsP0 (mRng1 m e) Q = RsP0 (m e) fun n e1 => bigI n = true ∧ Q (rng 0 n) e1 := by
  unfold mRng1; rw [rp_bind_0]; congr; funext n e1; rw [rp_ite_0]
  by_cases h : bigI n = true
  · simp [h, rp_ok_0]
  · simp [h, rp_bad_0]
theorem rp_rng2_0 {m : ε → Rs ε (Int × Int)} {Q : List Int → ε → Prop} : RsP0 (mRng2 m e) Q = RsP0 (m e) fun n e1 => (bigI n.1 = true ∧ bigI n.2 = true) ∧ Q (rng n.1 n.2) e1 := by
  unfold mRng2; rw [rp_bind_0]; congr; funext n e1; rw [rp_ite_0]
  by_cases h : bigI n.1 = true ∧ bigI n.2 = true
  · simp [h, rp_ok_0]
  · simp [h, rp_bad_0]
theorem rp_enum_0 {m : ε → Rs ε (List α)} {Q : List (Int × α) → ε → Prop} : RsP0 (mEnum m e) Q = RsP0 (m e) fun xs e1 => Q (enumF xs) e1 := by unfold mEnum; rw [rp_bind_0]; rfl
theorem rp_lock_0 {l : Ln ε γ} {m : ε → Rs ε α} : RsP0 (mLock l m e) Q = OpP0 (l.get e) fun x => RsP0 (m (l.put (some x) e)) fun a e1 => Q a (l.put (some x) (l.put none e1)) := by
  unfold mLock
  cases l.get e with
  | none => rfl
  | some x => simp only [OpP0]; cases m (l.put (some x) e) <;> rfl
theorem rp_dget2_0 [DecidableEq κ] {l : Ln ε (List (κ × β))} {m : ε → Rs ε κ} {x : ε → Rs ε β} {Q : β → ε → Prop} : RsP0 (mDGet2 l m x e) Q = OpP0 (l.get e) fun _ => RsP0 (m e) fun a e1 => RsP0 (x e1) fun b e2 => OpP0 (l.get e2) fun kbs => Q ((dget kbs a).getD b) e2 := by
  unfold mDGet2
  cases l.get e with
  | none => rfl
  | some y =>
    simp only [rp_bind_0, OpP0]
    congr; funext a e1; congr; funext b e2; rw [rp_var_0]; rfl
theorem rp_keys_0 {l : Ln ε (List (κ × β))} {Q : List κ → ε → Prop} : RsP0 (mKeys l e) Q = OpP0 (l.get e) fun kbs => Q (keysOf kbs) e := by unfold mKeys; rw [rp_bind_0, rp_var_0]; rfl
theorem rp_lc_0 {it : ε → Rs ε (List α)} {pt : α → ε → ε} {tt : ε → Rs ε Bool} {te : ε → Rs ε β} {kill : ε → ε} {rst : ε → ε → ε} {Q : List β → ε → Prop} : RsP0 (mLc it pt tt te kill rst e) Q = RsP0 (it e) fun xs e1 => xs.length ≤ 1000000 ∧ RsP0 (lcR pt tt te kill xs (kill e1) []) fun ys e2 => Q ys (rst e1 e2) := by
  unfold mLc; rw [rp_bind_0]; congr; funext xs e1; rw [rp_ite_0]
  by_cases h : xs.length ≤ 1000000
  · simp only [h, if_true, true_and, rp_bind_0]; rfl
  · simp [h, rp_bad_0]
theorem rp_yes_0 {Q : Bool → ε → Prop} : RsP0 (mYes e) Q = Q true e := propext ⟨fun h => h, fun h => h⟩
theorem iteI {c : Prop} {inst : Decidable c} {A B : Prop} (h1 : c → A) (h2 : ¬ c → B) : @ite Prop c inst A B := by
  by_cases h : c
  · rw [if_pos h]; exact h1 h
  · rw [if_neg h]; exact h2 h
theorem rp_runD_0 {x : So ε ρ} {Q : ρ → Unit → Prop} : RsP0 (x.run none) Q = SoP0 x (fun _ => False) (fun _ => False) (fun _ => False) fun a _ => Q a () := by cases x <;> rfl
theorem rp_runDS_0 {x : So ε ρ} {d : ρ} {Q : ρ → Unit → Prop} : RsP0 (x.run (some d)) Q = SoP0 x (fun _ => Q d ()) (fun _ => False) (fun _ => False) fun a _ => Q a () := by cases x <;> rfl
theorem rp_runI_0 {x : So ε ρ} {l : Ln ε ι} {Q : ρ → ι → Prop} : RsP0 (x.runI l none) Q = SoP0 x (fun _ => False) (fun _ => False) (fun _ => False) fun a e => OpP0 (l.get e) fun s => Q a s := by
  unfold So.runI
  cases x with
  | rt a e => simp only [sp_rt_0]; cases h : l.get e <;> simp only [h] <;> rfl
  | nx e => simp only [sp_nx_0]; cases h : l.get e <;> simp only [h] <;> rfl
  | ex c e => cases h : l.get e <;> simp only [h] <;> rfl
  | bk e => rfl
  | ct e => rfl
  | bad => rfl
theorem rp_runIS_0 {x : So ε ρ} {l : Ln ε ι} {d : ρ} {Q : ρ → ι → Prop} : RsP0 (x.runI l (some d)) Q = SoP0 x (fun e => OpP0 (l.get e) fun s => Q d s) (fun _ => False) (fun _ => False) fun a e => OpP0 (l.get e) fun s => Q a s := by
  unfold So.runI
  cases x with
  | rt a e => simp only [sp_rt_0]; cases h : l.get e <;> simp only [h] <;> rfl
  | nx e => simp only [sp_nx_0]; cases h : l.get e <;> simp only [h] <;> rfl
  | ex c e => cases h : l.get e <;> simp only [h] <;> rfl
  | bk e => rfl
  | ct e => rfl
  | bad => rfl
/-- a word between a statement and the rest -/
theorem cutP_0 {m n : ε → So ε ρ} (Mid : ε → Prop) (h1 : SoP0 (m e) Mid C B T) (h2 : ∀ e1, Mid e1 → SoP0 (n e1) N C B T) : SoP0 (mCut m n e) N C B T := by
  unfold mCut
  rw [sp_seq_0]
  exact h1.imp h2 (fun _ h => h) (fun _ h => h) fun _ _ h => h
/-- a test of several parts, by what it asks -/
theorem ifB_0 {c : ε → Rs ε Bool} {m n : ε → So ε ρ} {e' : ε} (p : Prop) (hc : RsP0 (c e) fun b e1 => (b = true ↔ p) ∧ e1 = e') (h1 : p → SoP0 (m e') N C B T) (h2 : ¬ p → SoP0 (n e') N C B T) : SoP0 (mIfB c m n e) N C B T := by
  unfold mIfB
  rw [sp_if_0]
  refine hc.imp ?_
  rintro b e1 ⟨hb, rfl⟩
  by_cases h : p
  · rw [if_pos (hb.mpr h)]
    exact h1 h
  · rw [if_neg fun z => h (hb.mp z)]
    exact h2 h
/-- a loop by what holds ahead of each turn -/
theorem loopP_0 {b : α → ε → So ε ρ} {xs : List α} {e : ε} (P : Nat → ε → Prop) (h0 : P 0 e) (hs : ∀ i x e, xs[i]? = some x → P i e → SoP0 (b x e) (P (i + 1)) (P (i + 1)) N T) (hd : ∀ e, P xs.length e → N e) : SoP0 (mLoop b xs e) N C B T := by
  suffices h : ∀ (ys : List α) (i : Nat) (e : ε), (∀ j x, ys[j]? = some x → xs[i + j]? = some x) → i + ys.length = xs.length → P i e → SoP0 (mLoop b ys e) N C B T from h xs 0 e (fun j x h => by simpa using h) (by simp) h0
  intro ys
  induction ys with
  | nil => intro i e _ hl p; exact hd e (by simp at hl; rw [← hl]; exact p)
  | cons y ys ih =>
    intro i e hx hl p
    have h1 := hs i y e (by simpa using hx 0 y rfl) p
    unfold mLoop
    revert h1
    cases b y e with
    | nx e1 => exact fun h1 => ih (i + 1) e1 (fun j x h => by rw [Nat.add_assoc, Nat.add_comm 1 j]; exact hx (j + 1) x (by simpa using h)) (by simp at hl; omega) h1
    | ct e1 => exact fun h1 => ih (i + 1) e1 (fun j x h => by rw [Nat.add_assoc, Nat.add_comm 1 j]; exact hx (j + 1) x (by simpa using h)) (by simp at hl; omega) h1
    | bk e1 => exact id
    | rt a e1 => exact id
    | ex c e1 => exact id
    | bad => exact id
/-- a loop over a range -/
theorem loopR_0 {b : Int → ε → So ε ρ} {n : Nat} {hi : Int} {e : ε} (hn : hi = (n : Int)) (P : Nat → ε → Prop) (h0 : P 0 e) (hs : ∀ (i : Nat) e, i < n → P i e → SoP0 (b (i : Int) e) (P (i + 1)) (P (i + 1)) N T) (hd : ∀ e, P n e → N e) : SoP0 (mLoop b (rng 0 hi) e) N C B T := by
  subst hn
  refine loopP_0 P h0 (fun i x e hx p => ?_) (fun e p => hd e ?_)
  · obtain ⟨h1, h2⟩ := rng_get hx
    rw [h2, Int.zero_add]
    exact hs i e (by omega) p
  · rw [rng_length] at p
    simpa using p
/-- whose turns change nothing -/
theorem lcP_0 {pt : α → ε → ε} {tt : ε → Rs ε Bool} {te : ε → Rs ε β} {kill : ε → ε} {xs : List α} {e : ε} {Q : List β → ε → Prop} (p : α → Bool) (f : α → β)
    (h : ∀ x ∈ xs, RsP0 (tt (pt x e)) fun b e1 => b = p x ∧ if p x = true then RsP0 (te e1) fun y e2 => y = f x ∧ kill e2 = e else kill e1 = e) (q : Q ((xs.filter p).map f) e) : RsP0 (lcR pt tt te kill xs e []) Q := by
  suffices hh : ∀ (ys : List α) (acc : List β), (∀ y ∈ ys, y ∈ xs) → lcR pt tt te kill ys e acc = .ok (acc ++ (ys.filter p).map f) e from by
    rw [hh xs [] fun _ h => h]
    exact q
  intro ys
  induction ys with
  | nil => intro acc _; simp [lcR]
  | cons y ys ih =>
    intro acc hy
    obtain ⟨b, e1, h1, rfl, h2⟩ := (h y (hy y List.mem_cons_self)).ex
    unfold lcR
    rw [h1, Rs.bindN_ok]
    by_cases hp : p y = true
    · rw [if_pos hp] at h2 ⊢
      obtain ⟨z, e2, h3, rfl, h4⟩ := h2.ex
      rw [h3, Rs.bindN_ok, h4, ih _ fun x hx => hy x (List.mem_cons_of_mem _ hx), List.filter_cons, if_pos hp]
      simp
    · rw [if_neg hp] at h2 ⊢
      rw [h2, ih _ fun x hx => hy x (List.mem_cons_of_mem _ hx), List.filter_cons, if_neg hp]
theorem lcM_0 {pt : α → ε → ε} {te : ε → Rs ε β} {kill : ε → ε} {xs : List α} {e : ε} {Q : List β → ε → Prop} (f : α → β) (h : ∀ x ∈ xs, RsP0 (te (pt x e)) fun y e2 => y = f x ∧ kill e2 = e) (q : Q (xs.map f) e) : RsP0 (lcR pt mYes te kill xs e []) Q := by
  refine lcP_0 (fun _ => true) f (fun x hx => ?_) (by rw [List.filter_eq_self.mpr (fun _ _ => rfl)]; exact q)
  simp only [rp_yes_0, if_true, true_and]
  exact h x hx
/-- by what holds of the list so far -/
theorem lcI_0 {pt : α → ε → ε} {te : ε → Rs ε β} {kill : ε → ε} {xs : List α} {e : ε} {Q : List β → ε → Prop} (P : Nat → List β → ε → Prop) (h0 : P 0 [] e) (h : ∀ i x acc e, xs[i]? = some x → P i acc e → RsP0 (te (pt x e)) fun y e2 => P (i + 1) (acc ++ [y]) (kill e2)) (q : ∀ acc e, P xs.length acc e → Q acc e) : RsP0 (lcR pt mYes te kill xs e []) Q := by
  suffices hh : ∀ (ys : List α) (i : Nat) (acc : List β) (e : ε), (∀ j x, ys[j]? = some x → xs[i + j]? = some x) → i + ys.length = xs.length → P i acc e → RsP0 (lcR pt mYes te kill ys e acc) Q from hh xs 0 [] e (fun j x h => by simpa using h) (by simp) h0
  intro ys
  induction ys with
  | nil => intro i acc e _ hl p; simp at hl; exact q acc e (hl ▸ p)
  | cons y ys ih =>
    intro i acc e hx hl p
    obtain ⟨z, e2, h3, h4⟩ := (h i y acc e (by simpa using hx 0 y rfl) p).ex
    unfold lcR
    rw [show mYes (pt y e) = .ok true (pt y e) from rfl, Rs.bindN_ok, if_pos rfl, h3, Rs.bindN_ok]
    exact ih (i + 1) _ _ (fun j x h => by rw [Nat.add_assoc, Nat.add_comm 1 j]; exact hx (j + 1) x (by simpa using h)) (by simp at hl; omega) h4
/-- it comes to an end well, and Q holds of what it gives (a thing by itself: nothing is computed where it stands) -/
inductive RsP {ε α : Type} : Rs ε α → (α → ε → Prop) → Prop
  | mk {a : α} {e : ε} {Q : α → ε → Prop} (h : Q a e) : RsP (.ok a e) Q
inductive SoP {ε ρ : Type} : So ε ρ → (ε → Prop) → (ε → Prop) → (ε → Prop) → (ρ → ε → Prop) → Prop
  | nx {e : ε} {N C B : ε → Prop} {T : ρ → ε → Prop} (h : N e) : SoP (.nx e) N C B T
  | ct {e : ε} {N C B : ε → Prop} {T : ρ → ε → Prop} (h : C e) : SoP (.ct e) N C B T
  | bk {e : ε} {N C B : ε → Prop} {T : ρ → ε → Prop} (h : B e) : SoP (.bk e) N C B T
  | rt {a : ρ} {e : ε} {N C B : ε → Prop} {T : ρ → ε → Prop} (h : T a e) : SoP (.rt a e) N C B T
inductive OpP {α : Type} : Option α → (α → Prop) → Prop
  | mk {a : α} {Q : α → Prop} (h : Q a) : OpP (some a) Q
theorem RsP_eq {x : Rs ε α} {Q : α → ε → Prop} : RsP x Q = RsP0 x Q := by
  refine propext ⟨fun h => by cases h with | mk h => exact h, fun h => ?_⟩
  cases x with
  | ok a e => exact .mk h
  | ex c e => exact h.elim
  | bad => exact h.elim
theorem SoP_eq {x : So ε ρ} {N C B : ε → Prop} {T : ρ → ε → Prop} : SoP x N C B T = SoP0 x N C B T := by
  refine propext ⟨fun h => by cases h with | nx h => exact h | ct h => exact h | bk h => exact h | rt h => exact h, fun h => ?_⟩
  cases x with
  | nx e => exact .nx h
  | ct e => exact .ct h
  | bk e => exact .bk h
  | rt a e => exact .rt h
  | ex c e => exact h.elim
  | bad => exact h.elim
theorem OpP_eq {x : Option α} {Q : α → Prop} : OpP x Q = OpP0 x Q := by
  refine propext ⟨fun h => by cases h with | mk h => exact h, fun h => ?_⟩
  cases x with
  | some a => exact .mk h
  | none => exact h.elim
theorem RsP.imp {x : Rs ε α} {P Q : α → ε → Prop} (h : RsP x P) (k : ∀ a e, P a e → Q a e) : RsP x Q := by
  simp only [RsP_eq, SoP_eq, OpP_eq] at *
  exact RsP0.imp h k
theorem RsP.ex {x : Rs ε α} (h : RsP x Q) : ∃ a e, x = .ok a e ∧ Q a e := by
  simp only [RsP_eq, SoP_eq, OpP_eq] at *
  exact RsP0.ex h
theorem RsP.of_eq {x : Rs ε α} (h : x = .ok a e) (q : Q a e) : RsP x Q := by
  simp only [RsP_eq, SoP_eq, OpP_eq] at *
  exact RsP0.of_eq h q
theorem SoP.imp {x : So ε ρ} {N N' C C' B B' : ε → Prop} {T T' : ρ → ε → Prop} (h : SoP x N C B T) (n : ∀ e, N e → N' e) (c : ∀ e, C e → C' e) (b : ∀ e, B e → B' e) (t : ∀ a e, T a e → T' a e) : SoP x N' C' B' T' := by
  simp only [RsP_eq, SoP_eq, OpP_eq] at *
  exact SoP0.imp h n c b t
theorem rp_ok : RsP (.ok a e) Q = Q a e := by
  simp only [RsP_eq, SoP_eq, OpP_eq]
  exact rp_ok_0
theorem rp_bad : RsP (.bad : Rs ε α) Q = False := by
  simp only [RsP_eq, SoP_eq, OpP_eq]
  exact rp_bad_0
theorem rp_of {o : Option α} : RsP (.of o e) Q = OpP o fun a => Q a e := by
  simp only [RsP_eq, SoP_eq, OpP_eq]
  exact rp_of_0
theorem op_some {Q : α → Prop} : OpP (some a) Q = Q a := by
  simp only [RsP_eq, SoP_eq, OpP_eq]
  exact op_some_0
theorem op_ite {c : Prop} [Decidable c] {o : Option α} {Q : α → Prop} : OpP (if c then o else none) Q = (c ∧ OpP o Q) := by
  simp only [RsP_eq, SoP_eq, OpP_eq]
  exact op_ite_0
theorem rp_bind {x : Rs ε β} {f : β → ε → Rs ε α} : RsP (x.bind f) Q = RsP x fun b e1 => RsP (f b e1) Q := by
  simp only [RsP_eq, SoP_eq, OpP_eq]
  exact rp_bind_0
theorem rp_bindN {x : Rs ε β} {f : β → ε → Rs ε α} : RsP (x.bindN f) Q = RsP x fun b e1 => RsP (f b e1) Q := by
  simp only [RsP_eq, SoP_eq, OpP_eq]
  exact rp_bindN_0
theorem rp_run {x : Rs Unit α} : RsP (x.run e) Q = RsP x fun b _ => Q b e := by
  simp only [RsP_eq, SoP_eq, OpP_eq]
  exact rp_run_0
theorem rp_ite {c : Prop} [Decidable c] {x y : Rs ε α} : RsP (if c then x else y) Q = if c then RsP x Q else RsP y Q := by
  simp only [RsP_eq, SoP_eq, OpP_eq]
  exact rp_ite_0
theorem sp_nx : SoP (.nx e : So ε ρ) N C B T = N e := by
  simp only [RsP_eq, SoP_eq, OpP_eq]
  exact sp_nx_0
theorem sp_ct : SoP (.ct e : So ε ρ) N C B T = C e := by
  simp only [RsP_eq, SoP_eq, OpP_eq]
  exact sp_ct_0
theorem sp_bk : SoP (.bk e : So ε ρ) N C B T = B e := by
  simp only [RsP_eq, SoP_eq, OpP_eq]
  exact sp_bk_0
theorem sp_rt {r : ρ} : SoP (.rt r e) N C B T = T r e := by
  simp only [RsP_eq, SoP_eq, OpP_eq]
  exact sp_rt_0
theorem sp_so {x : Rs ε α} {f : α → ε → So ε ρ} : SoP (x.so f) N C B T = RsP x fun a e1 => SoP (f a e1) N C B T := by
  simp only [RsP_eq, SoP_eq, OpP_eq]
  exact sp_so_0
theorem sp_ite {c : Prop} [Decidable c] {x y : So ε ρ} : SoP (if c then x else y) N C B T = if c then SoP x N C B T else SoP y N C B T := by
  simp only [RsP_eq, SoP_eq, OpP_eq]
  exact sp_ite_0
theorem sp_seq {m n : ε → So ε ρ} : SoP (mSeq m n e) N C B T = SoP (m e) (fun e1 => SoP (n e1) N C B T) C B T := by
  simp only [RsP_eq, SoP_eq, OpP_eq]
  exact sp_seq_0
theorem sp_kill {k : ε → ε} {m : ε → So ε ρ} : SoP (mKill k m e) N C B T = SoP (m e) (fun e1 => N (k e1)) (fun e1 => C (k e1)) (fun e1 => B (k e1)) T := by
  simp only [RsP_eq, SoP_eq, OpP_eq]
  exact sp_kill_0
theorem sp_for {m : ε → Rs ε (List α)} {pt : α → ε → ε} {b : ε → So ε ρ} : SoP (mFor m pt b e) N C B T = RsP (m e) fun xs e1 => SoP (mLoop (fun x e => b (pt x e)) xs e1) N C B T := by
  simp only [RsP_eq, SoP_eq, OpP_eq]
  exact sp_for_0
theorem sp_ret {m : ε → Rs ε ρ} : SoP (mRet m e) N C B T = RsP (m e) T := by
  simp only [RsP_eq, SoP_eq, OpP_eq]
  exact sp_ret_0
theorem sp_drop {m : ε → Rs ε α} : SoP (mDrop m e : So ε ρ) N C B T = RsP (m e) fun _ e1 => N e1 := by
  simp only [RsP_eq, SoP_eq, OpP_eq]
  exact sp_drop_0
theorem sp_set {l : Ln ε α} {m : ε → Rs ε α} : SoP (mSet l m e : So ε ρ) N C B T = RsP (m e) fun a e1 => N (l.put (some a) e1) := by
  simp only [RsP_eq, SoP_eq, OpP_eq]
  exact sp_set_0
theorem sp_asgN {m : ε → Rs ε α} {pt : α → ε → ε} : SoP (mAsgN m pt e : So ε ρ) N C B T = RsP (m e) fun a e1 => N (pt a e1) := by
  simp only [RsP_eq, SoP_eq, OpP_eq]
  exact sp_asgN_0
theorem sp_if {c : ε → Rs ε Bool} {m n : ε → So ε ρ} : SoP (mIfS c m n e) N C B T = RsP (c e) fun b e1 => if b = true then SoP (m e1) N C B T else SoP (n e1) N C B T := by
  simp only [RsP_eq, SoP_eq, OpP_eq]
  exact sp_if_0
theorem sp_next : SoP (mNext e : So ε ρ) N C B T = N e := by
  simp only [RsP_eq, SoP_eq, OpP_eq]
  exact sp_next_0
theorem sp_mbk : SoP (mBrk e : So ε ρ) N C B T = B e := by
  simp only [RsP_eq, SoP_eq, OpP_eq]
  exact sp_mbk_0
theorem sp_mct : SoP (mCt e : So ε ρ) N C B T = C e := by
  simp only [RsP_eq, SoP_eq, OpP_eq]
  exact sp_mct_0
theorem rp_un {g : β → Option α} {m : ε → Rs ε β} : RsP (mUn g m e) Q = RsP (m e) fun b e1 => OpP (g b) fun a => Q a e1 := by
  simp only [RsP_eq, SoP_eq, OpP_eq]
  exact rp_un_0
theorem rp_op {g : β → γ → Option α} {m : ε → Rs ε β} {n : ε → Rs ε γ} : RsP (mOp g m n e) Q = RsP (m e) fun b e1 => RsP (n e1) fun c e2 => OpP (g b c) fun a => Q a e2 := by
  simp only [RsP_eq, SoP_eq, OpP_eq]
  exact rp_op_0
theorem rp_var {l : Ln ε α} : RsP (mVar l e) Q = OpP (l.get e) fun a => Q a e := by
  simp only [RsP_eq, SoP_eq, OpP_eq]
  exact rp_var_0
theorem rp_move {l : Ln ε α} : RsP (mMove l e) Q = OpP (l.get e) fun a => Q a (l.put none e) := by
  simp only [RsP_eq, SoP_eq, OpP_eq]
  exact rp_move_0
theorem rp_c {a : α} : RsP (mC a e) Q = Q a e := by
  simp only [RsP_eq, SoP_eq, OpP_eq]
  exact rp_c_0
theorem rp_opL {g : β → γ → Option α} {l : Ln ε β} {m : ε → Rs ε γ} : RsP (mOpL g l m e) Q = OpP (l.get e) fun _ => RsP (m e) fun c e1 => OpP (l.get e1) fun b => OpP (g b c) fun a => Q a e1 := by
  simp only [RsP_eq, SoP_eq, OpP_eq]
  exact rp_opL_0
theorem rp_pair {m : ε → Rs ε α} {n : ε → Rs ε β} {Q : α × β → ε → Prop} : RsP (mPair m n e) Q = RsP (m e) fun a e1 => RsP (n e1) fun b e2 => Q (a, b) e2 := by
  simp only [RsP_eq, SoP_eq, OpP_eq]
  exact rp_pair_0
theorem rp_pairL {l : Ln ε α} {n : ε → Rs ε β} {Q : α × β → ε → Prop} : RsP (mPairL l n e) Q = OpP (l.get e) fun _ => RsP (n e) fun b e1 => OpP (l.get e1) fun a => Q (a, b) e1 := by
  simp only [RsP_eq, SoP_eq, OpP_eq]
  exact rp_pairL_0
theorem rp_cons {m : ε → Rs ε α} {n : ε → Rs ε (List α)} {Q : List α → ε → Prop} : RsP (mCons m n e) Q = RsP (m e) fun a e1 => RsP (n e1) fun b e2 => Q (a :: b) e2 := by
  simp only [RsP_eq, SoP_eq, OpP_eq]
  exact rp_cons_0
theorem rp_call {f : β → Rs Unit α} {m : ε → Rs ε β} : RsP (mCall f m e) Q = RsP (m e) fun b e1 => RsP (f b) fun a _ => Q a e1 := by
  simp only [RsP_eq, SoP_eq, OpP_eq]
  exact rp_call_0
theorem rp_callI {l : Ln ε ι} {f : ι → β → Rs ι α} {m : ε → Rs ε β} : RsP (mCallI l f m e) Q = OpP (l.get e) fun _ => RsP (m e) fun b e1 => OpP (l.get e1) fun s => RsP (f s b) fun a s' => Q a (l.put (some s') (l.put none e1)) := by
  simp only [RsP_eq, SoP_eq, OpP_eq]
  exact rp_callI_0
theorem rp_bm {l : Ln ε ι} {g : ι → β → Option (α × ι)} {m : ε → Rs ε β} : RsP (mBM l g m e) Q = OpP (l.get e) fun _ => RsP (m e) fun b e1 => OpP (l.get e1) fun s => OpP (g s b) fun p => Q p.1 (l.put (some p.2) (l.put none e1)) := by
  simp only [RsP_eq, SoP_eq, OpP_eq]
  exact rp_bm_0
theorem rp_bm0 {l : Ln ε ι} {g : ι → Unit → Option (α × ι)} : RsP (mBM0 l g e) Q = OpP (l.get e) fun _ => OpP (l.get e) fun s => OpP (g s ()) fun p => Q p.1 (l.put (some p.2) (l.put none e)) := by
  simp only [RsP_eq, SoP_eq, OpP_eq]
  exact rp_bm0_0
theorem sp_setI {l : Ln ε γ} {g : γ → α → β → Option γ} {mi : ε → Rs ε α} {m : ε → Rs ε β} : SoP (mSetI l g mi m e : So ε ρ) N C B T = RsP (m e) fun y e1 => OpP (l.get e1) fun _ => RsP (mi e1) fun x e2 => OpP (l.get e2) fun s => OpP (g s x y) fun s' => N (l.put (some s') (l.put none e2)) := by
  simp only [RsP_eq, SoP_eq, OpP_eq]
  exact sp_setI_0
theorem rp_not {m : ε → Rs ε Bool} {Q : Bool → ε → Prop} : RsP (mNot m e) Q = RsP (m e) fun b e1 => Q (!b) e1 := by
  simp only [RsP_eq, SoP_eq, OpP_eq]
  exact rp_not_0
theorem rp_and {m n : ε → Rs ε Bool} {Q : Bool → ε → Prop} : RsP (mAnd m n e) Q = RsP (m e) fun b e1 => if b = true then RsP (n e1) Q else Q false e1 := by
  simp only [RsP_eq, SoP_eq, OpP_eq]
  exact rp_and_0
theorem rp_or {m n : ε → Rs ε Bool} {Q : Bool → ε → Prop} : RsP (mOr m n e) Q = RsP (m e) fun b e1 => if b = true then Q true e1 else RsP (n e1) Q := by
  simp only [RsP_eq, SoP_eq, OpP_eq]
  exact rp_or_0
theorem rp_if {c : ε → Rs ε Bool} {m n : ε → Rs ε α} : RsP (mIf c m n e) Q = RsP (c e) fun b e1 => if b = true then RsP (m e1) Q else RsP (n e1) Q := by
  simp only [RsP_eq, SoP_eq, OpP_eq]
  exact rp_if_0
theorem rp_chain {g : α → β → Option Bool} {g' : β → γ → Option Bool} {m : ε → Rs ε α} {n : ε → Rs ε β} {k : ε → Rs ε γ} {Q : Bool → ε → Prop} : RsP (mChain g g' m n k e) Q = RsP (m e) fun a e1 => RsP (n e1) fun b e2 => OpP (g a b) fun c => if c = true then RsP (k e2) fun d e3 => OpP (g' b d) fun z => Q z e3 else Q false e2 := by
  simp only [RsP_eq, SoP_eq, OpP_eq]
  exact rp_chain_0
theorem rp_mSome {m : ε → Rs ε α} {Q : Option α → ε → Prop} : RsP (mSome m e) Q = RsP (m e) fun a e1 => Q (some a) e1 := by
  simp only [RsP_eq, SoP_eq, OpP_eq]
  exact rp_mSome_0
theorem rp_mNone {m : ε → Rs ε Unit} {Q : Option α → ε → Prop} : RsP (mNone m e) Q = RsP (m e) fun a e1 => Q none e1 := by
  simp only [RsP_eq, SoP_eq, OpP_eq]
  exact rp_mNone_0
theorem rp_part {m : ε → Rs ε Int} {Q : Option Int → ε → Prop} : RsP (mPart m e) Q = RsP (m e) fun a e1 => Q (some a) e1 := by
  simp only [RsP_eq, SoP_eq, OpP_eq]
  exact rp_part_0
theorem rp_sl {g : β → Option Int → Option Int → Option α} {m : ε → Rs ε β} {lo hi : ε → Rs ε (Option Int)} : RsP (mSl g m lo hi e) Q = RsP (m e) fun b e1 => RsP (lo e1) fun l e2 => RsP (hi e2) fun u e3 => OpP (g b l u) fun a => Q a e3 := by
  simp only [RsP_eq, SoP_eq, OpP_eq]
  exact rp_sl_0
theorem rp_slL {g : β → Option Int → Option Int → Option α} {l : Ln ε β} {lo hi : ε → Rs ε (Option Int)} : RsP (mSlL g l lo hi e) Q = OpP (l.get e) fun _ => RsP (lo e) fun l1 e2 => RsP (hi e2) fun u e3 => OpP (l.get e3) fun b => OpP (g b l1 u) fun a => Q a e3 := by
  simp only [RsP_eq, SoP_eq, OpP_eq]
  exact rp_slL_0
theorem rp_rng1 {m : ε → Rs ε Int} {Q : List Int → ε → Prop} : RsP (mRng1 m e) Q = RsP (m e) fun n e1 => bigI n = true ∧ Q (rng 0 n) e1 := by
  simp only [RsP_eq, SoP_eq, OpP_eq]
  exact rp_rng1_0
theorem rp_rng2 {m : ε → Rs ε (Int × Int)} {Q : List Int → ε → Prop} : RsP (mRng2 m e) Q = RsP (m e) fun n e1 => (bigI n.1 = true ∧ bigI n.2 = true) ∧ Q (rng n.1 n.2) e1 := by
  simp only [RsP_eq, SoP_eq, OpP_eq]
  exact rp_rng2_0
theorem rp_enum {m : ε → Rs ε (List α)} {Q : List (Int × α) → ε → Prop} : RsP (mEnum m e) Q = RsP (m e) fun xs e1 => Q (enumF xs) e1 := by
  simp only [RsP_eq, SoP_eq, OpP_eq]
  exact rp_enum_0
theorem rp_lock {l : Ln ε γ} {m : ε → Rs ε α} : RsP (mLock l m e) Q = OpP (l.get e) fun x => RsP (m (l.put (some x) e)) fun a e1 => Q a (l.put (some x) (l.put none e1)) := by
  simp only [RsP_eq, SoP_eq, OpP_eq]
  exact rp_lock_0
theorem rp_dget2 [DecidableEq κ] {l : Ln ε (List (κ × β))} {m : ε → Rs ε κ} {x : ε → Rs ε β} {Q : β → ε → Prop} : RsP (mDGet2 l m x e) Q = OpP (l.get e) fun _ => RsP (m e) fun a e1 => RsP (x e1) fun b e2 => OpP (l.get e2) fun kbs => Q ((dget kbs a).getD b) e2 := by
  simp only [RsP_eq, SoP_eq, OpP_eq]
  exact rp_dget2_0
theorem rp_keys {l : Ln ε (List (κ × β))} {Q : List κ → ε → Prop} : RsP (mKeys l e) Q = OpP (l.get e) fun kbs => Q (keysOf kbs) e := by
  simp only [RsP_eq, SoP_eq, OpP_eq]
  exact rp_keys_0
theorem rp_lc {it : ε → Rs ε (List α)} {pt : α → ε → ε} {tt : ε → Rs ε Bool} {te : ε → Rs ε β} {kill : ε → ε} {rst : ε → ε → ε} {Q : List β → ε → Prop} : RsP (mLc it pt tt te kill rst e) Q = RsP (it e) fun xs e1 => xs.length ≤ 1000000 ∧ RsP (lcR pt tt te kill xs (kill e1) []) fun ys e2 => Q ys (rst e1 e2) := by
  simp only [RsP_eq, SoP_eq, OpP_eq]
  exact rp_lc_0
theorem rp_yes {Q : Bool → ε → Prop} : RsP (mYes e) Q = Q true e := by
  simp only [RsP_eq, SoP_eq, OpP_eq]
  exact rp_yes_0
theorem rp_runD {x : So ε ρ} {Q : ρ → Unit → Prop} : RsP (x.run none) Q = SoP x (fun _ => False) (fun _ => False) (fun _ => False) fun a _ => Q a () := by
  simp only [RsP_eq, SoP_eq, OpP_eq]
  exact rp_runD_0
theorem rp_runDS {x : So ε ρ} {d : ρ} {Q : ρ → Unit → Prop} : RsP (x.run (some d)) Q = SoP x (fun _ => Q d ()) (fun _ => False) (fun _ => False) fun a _ => Q a () := by
  simp only [RsP_eq, SoP_eq, OpP_eq]
  exact rp_runDS_0
theorem rp_runI {x : So ε ρ} {l : Ln ε ι} {Q : ρ → ι → Prop} : RsP (x.runI l none) Q = SoP x (fun _ => False) (fun _ => False) (fun _ => False) fun a e => OpP (l.get e) fun s => Q a s := by
  simp only [RsP_eq, SoP_eq, OpP_eq]
  exact rp_runI_0
theorem rp_runIS {x : So ε ρ} {l : Ln ε ι} {d : ρ} {Q : ρ → ι → Prop} : RsP (x.runI l (some d)) Q = SoP x (fun e => OpP (l.get e) fun s => Q d s) (fun _ => False) (fun _ => False) fun a e => OpP (l.get e) fun s => Q a s := by
  simp only [RsP_eq, SoP_eq, OpP_eq]
  exact rp_runIS_0
theorem cutP {m n : ε → So ε ρ} (Mid : ε → Prop) (h1 : SoP (m e) Mid C B T) (h2 : ∀ e1, Mid e1 → SoP (n e1) N C B T) : SoP (mCut m n e) N C B T := by
  simp only [RsP_eq, SoP_eq, OpP_eq] at *
  exact cutP_0 Mid h1 h2
theorem ifB {c : ε → Rs ε Bool} {m n : ε → So ε ρ} {e' : ε} (p : Prop) (hc : RsP (c e) fun b e1 => (b = true ↔ p) ∧ e1 = e') (h1 : p → SoP (m e') N C B T) (h2 : ¬ p → SoP (n e') N C B T) : SoP (mIfB c m n e) N C B T := by
  simp only [RsP_eq, SoP_eq, OpP_eq] at *
  exact ifB_0 p hc h1 h2
theorem loopP {b : α → ε → So ε ρ} {xs : List α} {e : ε} (P : Nat → ε → Prop) (h0 : P 0 e) (hs : ∀ i x e, xs[i]? = some x → P i e → SoP (b x e) (P (i + 1)) (P (i + 1)) N T) (hd : ∀ e, P xs.length e → N e) : SoP (mLoop b xs e) N C B T := by
  simp only [RsP_eq, SoP_eq, OpP_eq] at *
  exact loopP_0 P h0 hs hd
theorem loopR {b : Int → ε → So ε ρ} {n : Nat} {hi : Int} {e : ε} (hn : hi = (n : Int)) (P : Nat → ε → Prop) (h0 : P 0 e) (hs : ∀ (i : Nat) e, i < n → P i e → SoP (b (i : Int) e) (P (i + 1)) (P (i + 1)) N T) (hd : ∀ e, P n e → N e) : SoP (mLoop b (rng 0 hi) e) N C B T := by
  simp only [RsP_eq, SoP_eq, OpP_eq] at *
  exact loopR_0 hn P h0 hs hd
theorem lcP {pt : α → ε → ε} {tt : ε → Rs ε Bool} {te : ε → Rs ε β} {kill : ε → ε} {xs : List α} {e : ε} {Q : List β → ε → Prop} (p : α → Bool) (f : α → β)
    (h : ∀ x ∈ xs, RsP (tt (pt x e)) fun b e1 => b = p x ∧ if p x = true then RsP (te e1) fun y e2 => y = f x ∧ kill e2 = e else kill e1 = e) (q : Q ((xs.filter p).map f) e) : RsP (lcR pt tt te kill xs e []) Q := by
  simp only [RsP_eq, SoP_eq, OpP_eq] at *
  exact lcP_0 p f h q
theorem lcM {pt : α → ε → ε} {te : ε → Rs ε β} {kill : ε → ε} {xs : List α} {e : ε} {Q : List β → ε → Prop} (f : α → β) (h : ∀ x ∈ xs, RsP (te (pt x e)) fun y e2 => y = f x ∧ kill e2 = e) (q : Q (xs.map f) e) : RsP (lcR pt mYes te kill xs e []) Q := by
  simp only [RsP_eq, SoP_eq, OpP_eq] at *
  exact lcM_0 f h q
theorem lcI {pt : α → ε → ε} {te : ε → Rs ε β} {kill : ε → ε} {xs : List α} {e : ε} {Q : List β → ε → Prop} (P : Nat → List β → ε → Prop) (h0 : P 0 [] e) (h : ∀ i x acc e, xs[i]? = some x → P i acc e → RsP (te (pt x e)) fun y e2 => P (i + 1) (acc ++ [y]) (kill e2)) (q : ∀ acc e, P xs.length acc e → Q acc e) : RsP (lcR pt mYes te kill xs e []) Q := by
  simp only [RsP_eq, SoP_eq, OpP_eq] at *
  exact lcI_0 P h0 h q
theorem fz_of {K : PySem.W.Frag} {H : Hp} {a : Addr} {ns : List Int} (h : SqL K H a (ns.map V.int)) (hH : ∀ b u, H b = some u → b = a ∧ ∃ o v, u = .frz o v) : Fz K H a (ns.map V.int) := by
  rcases h with (h | ⟨o, h⟩) | h
  · obtain ⟨_, o, v, z⟩ := hH a _ h
    cases z
  · exact .inl ⟨o, h⟩
  · exact .inr fun _ => .inr h
theorem law_go {K : PySem.W.Frag} {H : Hp} {a : Addr} {ns : List Int} {f : List Int → Rs Unit Bool} {E : XK} (hf : Fz K H a (ns.map V.int)) (h : RsP (f ns) fun b _ => b = true) : spD K cx0 (aOne (ir rScr)) (fz rB) f [.ref a] H (fun v _ => v = .bl true) E := by
  refine ⟨H, ns, ⟨.refl, fun _ _ h => h⟩, ⟨_, rfl, a, rfl, hf⟩, ?_⟩
  obtain ⟨b, u, e, rfl⟩ := h.ex
  rw [e]
  exact fun v G' H' H1 i hr => hr.1
end
variable {α : Type}
/-- a list, the step -/
def gStep (xs : List α) (o : Option Int) : Option (List α) := if o = some 1 then some xs else if o = some (-1) then some xs.reverse else none
theorem Held.up {P : Program} {w : World} {K : PySem.W.Frag} {mg : Str → Option Value} {base : Heap} {j k : Nat} {f : Addr} {sp : Sp} (h : Held P w K mg base j f sp) (hj : j ≤ k) : Held P w K mg base k f sp := by
  obtain ⟨fd, ps, F, hk, hb⟩ := h.ex
  exact ⟨fd, ps, ⟨F.len, fun A outer s H args us vs Q E hr => F.run A outer s H args us vs Q E (hr.mono hj)⟩, hk, hb⟩
/-- a def as a thing: its mirror -/
def rFn (P : Program) (w : World) (mg : Str → Option Value) (base : Heap) (k : Nat) {α ρ : Type} (ra : IR (List V) α) (rr : RS V ρ) : Rep (α → Rs Unit ρ) := ⟨fun K _ v g => ∃ f, v = .ref f ∧ Held P w K mg base k f (spD K cx0 ra rr g), fun _ h => h⟩
section
variable {ε ι α ρ : Type} {P : Program} {w : World} {mg : Str → Option Value} {base : Heap} {k : Nat} {K : PySem.W.Frag} {R : ERep ε}
theorem x_fn {f : Addr} {ra : IR (List V) α} {rr : RS V ρ} {g : α → Rs Unit ρ} (h : Held P w K mg base k f (spD K cx0 ra rr g)) : EX ⟨K, E0, cx0⟩ R (tC (.ref f)) (fz (rFn P w mg base k ra rr)) (mC g) := fun F G H σ e i hR Q p => p _ G H H i .refl ⟨⟨f, rfl, h⟩, rfl⟩ hR
/-- the def, then the arguments, then the call -/
def mCallX (mf : ε → Rs ε (α → Rs Unit ρ)) (m : ε → Rs ε α) : ε → Rs ε ρ := fun e => (mf e).bind fun g e1 => mCall g m e1
def mCallXI (l : Ln ε ι) (mf : ε → Rs ε (ι → α → Rs ι ρ)) (m : ε → Rs ε α) : ε → Rs ε ρ := fun e => (mf e).bind fun g e1 => mCallI l g m e1
theorem rp_callX {mf : ε → Rs ε (α → Rs Unit ρ)} {m : ε → Rs ε α} {e : ε} {Q : ρ → ε → Prop} : RsP (mCallX mf m e) Q = RsP (mf e) fun g e1 => RsP (mCall g m e1) Q := by unfold mCallX; rw [rp_bind]
theorem rp_callXI {l : Ln ε ι} {mf : ε → Rs ε (ι → α → Rs ι ρ)} {m : ε → Rs ε α} {e : ε} {Q : ρ → ε → Prop} : RsP (mCallXI l mf m e) Q = RsP (mf e) fun g e1 => RsP (mCallI l g m e1) Q := by unfold mCallXI; rw [rp_bind]
end
section
variable {ε α β γ : Type} {K : PySem.W.Frag} {M : Mx} {R : ERep ε}
def gCut32 (p : α × β × γ) (lo hi : Option Int) : Option (α × β) := if lo = none ∧ hi = some 2 then some (p.1, p.2.1) else none
end
section
variable {K : PySem.W.Frag} {α β γ : Type}
def rMin2 : List V → Hp → VK → Prop := fun xs H Q => ∃ i j, xs = [.int i, .int j] ∧ Q (.int (if j < i then j else i)) H
def rMax2' : List V → Hp → VK → Prop := fun xs H Q => ∃ i j, xs = [.int i, .int j] ∧ Q (.int (if j > i then j else i)) H
theorem cr_min2 {X : Cx} (hc : X.calm = true) : CallR X (.builtin "min") rMin2 := call_min2 hc
theorem cr_max2 {X : Cx} (hc : X.calm = true) : CallR X (.builtin "max") rMax2' := call_max2 hc
def gMin2 (p : Int × Int) : Option Int := some (min p.1 p.2)
def gMax2 (p : Int × Int) : Option Int := some (max p.1 p.2)
theorem v_min2 : VR K rMin2 (aCons (ir rI) (aOne (ir rI))) rI gMin2 := fun G H v a b Q s ⟨x, ws, h0, h1, y, h2, h3⟩ hg k => by
  cases hg; subst h0 h2
  refine ⟨a.1, a.2, by rw [show x = .int a.1 from h1, show y = .int a.2 from h3], ?_⟩
  rw [show (if a.2 < a.1 then a.2 else a.1) = min a.1 a.2 by split <;> omega]
  exact k _ G H (.refl s) rfl
theorem v_max2 : VR K rMax2' (aCons (ir rI) (aOne (ir rI))) rI gMax2 := fun G H v a b Q s ⟨x, ws, h0, h1, y, h2, h3⟩ hg k => by
  cases hg; subst h0 h2
  refine ⟨a.1, a.2, by rw [show x = .int a.1 from h1, show y = .int a.2 from h3], ?_⟩
  rw [show (if a.2 > a.1 then a.2 else a.1) = max a.1 a.2 by split <;> omega]
  exact k _ G H (.refl s) rfl
def gRem (xs : List Int) (k : Int) : Option (Unit × List Int) := if k ∈ xs then some ((), xs.erase k) else none
/-- a value's own kind -/
def Kd (i : IR V α) (t : String) : Prop := ∀ K G H v a, Sub G H → i K G H v a → TyX K H v (.type t)
theorem kd_S : Kd (ir rS) "str" := fun K G H v a s h => by rw [show v = .str a from h]; exact .base (.str a)
def rTy (T : String) : Rep Unit := ⟨fun _ _ v _ => v = .ty T, fun _ h => h⟩
def gIsi (b : Bool) (_ : α × Unit) : Option Bool := some b
theorem v_isi {i : IR V α} {t T : String} {b : Bool} (kd : Kd i t) (hk : ∀ K, PySem.W.kitOne K (.type t) (.type T) = some b) : VR K (rIsi K) (aCons i (aOne (ir (rTy T)))) rB (gIsi b) := fun G H v a c Q s ⟨x, ws, h0, h1, y, h2, h3⟩ hg k => by
  cases hg; subst h0 h2
  rw [show y = .ty T from h3]
  exact ⟨x, _, _, _, b, rfl, .ty T, kd _ _ _ _ _ s h1, hk K, k _ G H (.refl s) rfl⟩
end
section
variable {K : PySem.W.Frag} {α β γ ε : Type} {M : Mx} {R : ERep ε}
def rSplit : V → List V → Hp → VK → Prop := fun x xs H Q => ∃ a b, x = .str a ∧ xs = [.str b] ∧ (b.length == 0) = false ∧ a.length + 2 ≤ sizeLine ∧ rNewStrs (Txt.split a b) H Q
def gSplit (a b : Str) : Option (List Str) := if (b.length == 0) = false ∧ a.length + 2 ≤ 16777216 then some (Txt.split a b) else none
theorem x_split {to te : TE} {m n : ε → Rs ε Str} (h : EX M R to (fz rS) m) (k : EX M R te (fz rS) n) : EX M R (tM1 rSplit to te) (fs (oL rS)) (mOp gSplit m n) := fun F G H σ e i hR Q p =>
  h F G H σ e i hR _ (p.bind fz_h fun v a e1 G1 H1 i1 s1 R1 r1 p1 => ⟨⟨a, r1.1⟩, k F G1 H1 σ e1 i1 R1 _ (p1.bind fz_h fun w b e2 G2 H2 i2 s2 R2 r2 p2 => by
    obtain ⟨c, hc, p3⟩ := of_some p2
    obtain ⟨hz, rfl⟩ := of_ite hc
    refine ⟨a, b, r1.1, by rw [show w = .str b from r2.1], hz.1, by rw [sizeLine_eq]; exact hz.2, fun p hp => ?_⟩
    exact (Post.finF i2 R2 p3) p _ G2 _ (.own i2.gh hp) hp (i2.gh.no hp) upd_same ⟨_, rfl, .ofMap fun _ _ => rfl⟩)⟩)
def signs (z : Str) : List Str := z.cps.toList.map fun c => ⟨#[c]⟩
def mSigns (m : ε → Rs ε Str) : ε → Rs ε (List Str) := fun e => (m e).bind fun z e1 => .ok (signs z) e1
theorem x_iStr {t : TE} {m : ε → Rs ε Str} (h : EX M R t (fz rS) m) : EX M R (iStr t) (walkS rS) (mSigns m) := fun F G H σ e i hR Q p =>
  h F G H σ e i hR _ (p.bind fz_h fun v z e1 G1 H1 i1 s1 R1 r1 p1 => by
    refine ⟨z, r1.1, p1 _ G1 H1 H1 i1 .refl ⟨fun k G2 H2 i2 s2 => ?_, rfl⟩ R1⟩
    have hl : (signs z).length = z.cps.size := by simp [signs]
    refine ⟨fun hk => by rw [hl] at hk; exact hk, fun x hx => ?_⟩
    have hk : k < z.cps.size := by rw [← hl]; exact (List.getElem?_eq_some_iff.mp hx).1
    refine ⟨hk, fun v' H'' hy => ?_⟩
    obtain ⟨rfl, c, hc, rfl⟩ := hy
    refine ⟨G2, .refl i2.gh, ?_⟩
    unfold signs at hx
    rw [List.getElem?_map, Array.getElem?_toList, hc] at hx
    cases hx
    rfl)
def rIntS : List V → Hp → VK → Prop := fun xs H Q => ∃ a n, xs = [.str a] ∧ PySem.intText? a = some n ∧ a.length ≤ 640 ∧ Q (.int n) H
theorem cr_intS {X : Cx} : CallR X (.type "int") rIntS := call_int_str
def gIntS (a : Str) : Option Int := if a.length ≤ 640 then PySem.intText? a else none
theorem v_intS : VR K rIntS (aOne (ir rS)) rI gIntS := fun G H v a b Q s ⟨x, h0, h1⟩ hg k => by
  subst h0
  unfold gIntS at hg
  split at hg
  · next hz => exact ⟨a, b, by rw [show x = .str a from h1], hg, hz, k _ G H (.refl s) rfl⟩
  · cases hg
theorem rp_signs {m : ε → Rs ε Str} {e : ε} {Q : List Str → ε → Prop} : RsP (mSigns m e) Q = RsP (m e) fun z e1 => Q (signs z) e1 := by unfold mSigns; rw [rp_bind]; simp only [rp_ok]
def NnE (E : En α) : Prop := ∀ a, PyData.eqv .none (E.enc a) = false ∧ PyData.eqv (E.enc a) .none = false
theorem nne_I : NnE enI := fun a => ⟨by simp [enI, PyData.eqv], by simp [enI, PyData.eqv]⟩
theorem eq_O [DecidableEq α] {E : En α} (nn : NnE E) (h : EnEq E) : EnEq (enO E) := fun a b => by
  cases a with
  | none => cases b with
    | none => simp [enO, PyData.eqv]
    | some y => simp only [enO, (nn y).1]; simp
  | some x => cases b with
    | none => simp only [enO, (nn x).2]; simp
    | some y => simp only [enO, h x y]; simp
def mNever {ρ : Type} : ε → So ε ρ := fun _ => .bad
theorem s_never {ρ : Type} {rr : RS V ρ} : SX M R rr tNever mNever := fun F G H σ e i hR D p => p
def srtF (fs : List (List Int)) : List (List Int) := fs.mergeSort faceLe
def gSortF (fs : List (List Int)) : Option (List (List Int)) := if fs.length ≤ 1000000 ∧ (∀ f ∈ fs, f.length ≤ 1000000) then some (srtF fs) else none
def mUnw (m : ε → Rs ε (Option α)) : ε → Rs ε α := fun e => (m e).bind fun o e1 => .of o e1
theorem x_unw {t : TE} {r : Rep α} {m : ε → Rs ε (Option α)} (h : EX M R t (fz (rO r)) m) : EX M R t (fz r) (mUnw m) := fun F G H σ e i hR Q p =>
  h F G H σ e i hR _ (p.bind fz_h fun v o e1 G1 H1 i1 s1 R1 r1 p1 => by
    cases o with
    | none => exact p1.elim
    | some a => exact p1 v G1 H1 H1 i1 .refl ⟨r1.1.2, rfl⟩ R1)
theorem rp_unw {m : ε → Rs ε (Option α)} {e : ε} {Q : α → ε → Prop} : RsP (mUnw m e) Q = RsP (m e) fun o e1 => OpP o fun a => Q a e1 := by unfold mUnw; rw [rp_bind]; simp only [rp_of]
end
variable {ε α β ρ : Type} {M : Mx} {R : ERep ε} {rr : RS V ρ}
/-- a name whose thing may be anything -/
structure Fg (R : ERep ε) (n : Nat) (l : Ln ε α) : Prop where
  ln : ∀ {K F G H σ e}, R.rel K F G H σ e → n < σ.length
  st : ∀ {K F G H σ e} (v : V), R.rel K F G H σ e → R.rel K F G H (σ.set n (some v)) (l.put none e)
section
variable {r : Rep α} {r' : Rep β} {q' : ORep β} {own : Frm → Addr → Prop} [op : OwnP own] {n : Nat} {l : Ln ε α}
theorem Fg.z : Fg (eFr r R) 0 Ln.z := by
  refine ⟨?_, ?_⟩
  · rintro K F G H σ e ⟨o, σ', rfl, h2, h3⟩
    simp
  · rintro K F G H σ e v ⟨o, σ', rfl, h2, h3⟩
    exact ⟨some v, σ', rfl, fun x hx => (nomatch hx), h3⟩
end
/-- x = y, then what is done with x is done with y -/
def mAl (l : Ln ε α) (q : Ln ε β) (m : ε → So ε ρ) : ε → So ε ρ := fun e => match q.get e with
  | some _ => m (l.put none e)
  | none => .bad
theorem sp_al {l : Ln ε α} {q : Ln ε β} {m : ε → So ε ρ} {e : ε} {N C B : ε → Prop} {T : ρ → ε → Prop} : SoP (mAl l q m e) N C B T = OpP (q.get e) fun _ => SoP (m (l.put none e)) N C B T := by
  unfold mAl
  cases q.get e with
  | none =>
    rw [SoP_eq, OpP_eq]
    rfl
  | some a => rw [op_some]
/-- a while loop, by how many turns are left at most -/
theorem whileP {c : ε → Rs ε Bool} {b : ε → So ε ρ} {N C B : ε → Prop} {T : ρ → ε → Prop} (P : Nat → ε → Prop)
    (h : ∀ n e, P n e → RsP (c e) fun v e1 => if v = true then ∃ m, n = m + 1 ∧ SoP (b e1) (P m) (P m) N T else N e1) : ∀ (fuel n : Nat) (e : ε), n < fuel → P n e → SoP (mWhileN c b fuel e) N C B T
  | 0, n, e, hn, _ => absurd hn (Nat.not_lt_zero n)
  | fuel + 1, n, e, hn, p => by
    unfold mWhileN
    rw [sp_so]
    refine (h n e p).imp fun v e1 hv => ?_
    by_cases hb : v = true
    · rw [if_pos hb] at hv ⊢
      obtain ⟨m, rfl, hm⟩ := hv
      revert hm
      cases b e1 with
      | nx e2 => exact fun hm => whileP P h fuel m e2 (by omega) (by rw [sp_nx] at hm; exact hm)
      | ct e2 => exact fun hm => whileP P h fuel m e2 (by omega) (by rw [sp_ct] at hm; exact hm)
      | bk e2 => exact fun hm => by rw [sp_bk] at hm; rw [sp_nx]; exact hm
      | rt a e2 => exact fun hm => by rw [sp_rt] at hm; rw [sp_rt]; exact hm
      | ex c e2 => exact fun hm => by rw [SoP_eq] at hm; exact hm.elim
      | bad => exact fun hm => by rw [SoP_eq] at hm; exact hm.elim
    · rw [if_neg hb] at hv ⊢
      rw [sp_nx]
      exact hv
/-- a number of the module -/
theorem pe_gI {X : Cx} {x : Str} {i : Int} {pos : Pos} (hg : Gl X x) (hm : ∃ t, X.mg x = some (.int i t)) (hd : (x == ("__debug__" : Str)) = false := by decide) : PE X (.Name x pos) (tC (.int i)) := by
  obtain ⟨t, hm⟩ := hm
  exact pe_glob hg hm ⟨t, rfl⟩ hd
section
variable {K : PySem.W.Frag} {α β γ ε ρ : Type} {w : World} {P : Program}
def gSetF (fs : List (List Int)) : Option (List (List Int)) := if fs.length < 64 then some fs else none
/-- rising faces, each once -/
def insF (x : List Int) : List (List Int) → List (List Int)
  | [] => [x]
  | y :: ys => if x < y then x :: y :: ys else if x = y then y :: ys else y :: insF x ys
def ssetF (fs : List (List Int)) : List (List Int) := fs.foldr insF []
def gSsetF (fs : List (List Int)) : Option (List (List Int)) := some (ssetF fs)
def gLen2 (_ : α × β) : Option Int := some 2
def Ln.zl : Ln (Option (α ⊕ β) × ε) α := ⟨fun e => match e.1 with | some (.inl a) => some a | _ => none, fun a e => (a.map Sum.inl, e.2)⟩
def Ln.zr : Ln (Option (α ⊕ β) × ε) β := ⟨fun e => match e.1 with | some (.inr a) => some a | _ => none, fun a e => (a.map Sum.inr, e.2)⟩
section
variable {e : ε} {o : Option (α ⊕ β)} {a : α} {b : β}
theorem Ln.get_zlS : (Ln.zl : Ln (Option (α ⊕ β) × ε) α).get (some (.inl a), e) = some a := rfl
theorem Ln.get_zlN : (Ln.zl : Ln (Option (α ⊕ β) × ε) α).get (none, e) = none := rfl
theorem Ln.put_zlS : (Ln.zl : Ln (Option (α ⊕ β) × ε) α).put (some a) (o, e) = (some (.inl a), e) := rfl
theorem Ln.put_zlN : (Ln.zl : Ln (Option (α ⊕ β) × ε) α).put none (o, e) = (none, e) := rfl
theorem Ln.get_zrS : (Ln.zr : Ln (Option (α ⊕ β) × ε) β).get (some (.inr b), e) = some b := rfl
theorem Ln.get_zrN : (Ln.zr : Ln (Option (α ⊕ β) × ε) β).get (none, e) = none := rfl
theorem Ln.put_zrS : (Ln.zr : Ln (Option (α ⊕ β) × ε) β).put (some b) (o, e) = (some (.inr b), e) := rfl
theorem Ln.put_zrN : (Ln.zr : Ln (Option (α ⊕ β) × ε) β).put none (o, e) = (none, e) := rfl
end
variable {M : Mx} {R : ERep ε}
def ptSub (l : Ln ε γ) (g : γ → α → β → Option γ) (mi : ε → Rs ε α) : β → ε → Rs ε Unit := fun y e => match l.get e with
  | none => .bad
  | some _ => (mi e).bindN fun x e1 => match l.get e1 with
    | none => .bad
    | some st => match g st x y with
      | none => .bad
      | some st' => .ok () (l.put (some st') (l.put none e1))
def ptTwo (p : α → ε → Rs ε Unit) (p' : β → ε → Rs ε Unit) : α × β → ε → Rs ε Unit := fun ab e => (p ab.1 e).bindN fun _ e1 => p' ab.2 e1
theorem sp_asg {m : ε → Rs ε α} {pt : α → ε → Rs ε Unit} {e : ε} {N C B : ε → Prop} {T : ρ → ε → Prop} : SoP (mAsg m pt e : So ε ρ) N C B T = RsP (m e) fun a e1 => RsP (pt a e1) fun _ e2 => N e2 := by
  unfold mAsg
  rw [sp_so]
  congr
  funext a e1
  rw [sp_so]
  congr
  funext _ e2
  rw [sp_nx]
theorem rp_ptTwo {p : α → ε → Rs ε Unit} {p' : β → ε → Rs ε Unit} {a : α × β} {e : ε} {Q : Unit → ε → Prop} : RsP (ptTwo p p' a e) Q = RsP (p a.1 e) fun _ e1 => RsP (p' a.2 e1) Q := by
  unfold ptTwo
  rw [rp_bindN]
theorem rp_ptSub {l : Ln ε γ} {g : γ → α → β → Option γ} {mi : ε → Rs ε α} {y : β} {e : ε} {Q : Unit → ε → Prop} : RsP (ptSub l g mi y e) Q = OpP (l.get e) fun _ => RsP (mi e) fun x e1 => OpP (l.get e1) fun st => OpP (g st x y) fun st' => Q () (l.put (some st') (l.put none e1)) := by
  unfold ptSub
  cases h0 : l.get e with
  | none => rw [RsP_eq, OpP_eq]; rfl
  | some st0 =>
    rw [op_some]
    dsimp only
    rw [rp_bindN]
    congr
    funext x e1
    cases k2 : l.get e1 with
    | none => rw [RsP_eq, OpP_eq]; rfl
    | some st =>
      rw [op_some]
      dsimp only
      cases hg : g st x y with
      | none => rw [RsP_eq, OpP_eq]; rfl
      | some st' => rw [op_some, rp_ok]
end
section
variable {K : PySem.W.Frag} {α β γ ε ρ : Type}
/-- the pairs put one after the other -/
def dputs (kbs more : List (Int × β)) : List (Int × β) := more.foldl (fun acc kv => dput acc kv.1 kv.2) kbs
def gUpd (kbs more : List (Int × β)) : Option (Unit × List (Int × β)) := if kbs.length + more.length < 1000000 then some ((), dputs kbs more) else none
def gStr (n : Int) : Option Str := if n.natAbs.log2 < 1920 then some (toString n) else none
theorem v_str : VR K rStr (aOne (ir rI)) rS gStr := fun G H v a b Q s ⟨x, h0, h1⟩ hg k => by
  obtain ⟨hz, e⟩ := of_ite hg
  cases e
  subst h0
  exact ⟨a, by rw [show x = .int a from h1], hz, k _ G H (.refl s) rfl⟩
def gLenS (z : Str) : Option Int := if z.length ≤ 1000000 then some (z.length : Int) else none
theorem v_lenStr : VR K rLenStr (aOne (ir rS)) rI gLenS := fun G H v a b Q s ⟨x, h0, h1⟩ hg k => by
  obtain ⟨hz, e⟩ := of_ite hg
  cases e
  subst h0
  exact ⟨a, by rw [show x = .str a from h1], Nat.le_trans hz (by rw [sizeLine_eq]; decide), k _ G H (.refl s) rfl⟩
end
section
variable {X : Cx} {pins : List (Addr × Obj)} {σ : L2.St} {H : Hp} {s : Shared} {h' : Heap}
/-- an object laid where none was -/
theorem inv_laid {a : Addr} {o : HO} {t' : Nat} (I : Inv X pins σ H s) (k : ∀ b u, s.heap.get? b = some u → h'.get? b = some u) (hp : ∀ b u, s.heap.get? b = some u → b ≠ a) (hn : H a = none) (new : ObjOk X.prog X.w (upd H a o) h' a o) :
    Inv X pins σ (upd H a o) { s with heap := h', toks := t' } := by
  refine I.un (h' := h') ⟨fun b u q _ _ _ => k b u q, fun b u q _ _ _ => ⟨u.slots, k b u q⟩, fun b u q n _ => ?_, fun b u q _ => ⟨u, k b u q⟩, fun b xs q => ?_, fun b u xs q => ?_, fun b ps q => ⟨#[], ?_⟩⟩ fun b u e => ?_
  · rw [upd_ne (hp b u q)]; exact n
  · rw [upd_ne (ne_of_none q hn)]; exact q
  · rw [upd_ne (ne_of_none q hn)]; exact q
  · rw [upd_ne (ne_of_none q hn), q]; simp
  · by_cases hb : b = a
    · subst hb; rw [upd_same] at e; cases e; exact new
    · rw [upd_ne hb] at e
      exact (I.hok b u e).stay (fun c v _ q => k c v q) (fun c q => by rw [upd_ne (ne_of_none q hn)]; exact q) fun c xs q => by rw [upd_ne (ne_of_none q hn)]; exact q
end
section
variable {K : PySem.W.Frag} {α β γ ε ρ : Type}
def srtK (fs : List (List Int)) : List (List Int) := fs.mergeSort tLe
def gSortK (kbs : List (List Int × β)) : Option (List (List Int)) := if kbs.length ≤ 1000000 then some (srtK (keysOf kbs)) else none
end
section
variable {ν ν' α β γ ε ρ ι : Type} {M : Mx} {R : ERep ε} {F : Frm} {G G1 H : Hp} {σ : Sg} {D : Ends}
def mCallE (f : α → Rs Unit ρ) (m : ε → Rs ε α) : ε → Rs ε ρ := fun e => (m e).bind fun a e1 => match f a with
  | .ok b _ => .ok b e1 | .ex c _ => .ex c e1 | .bad => .bad
def mRaise (c : Str) : ε → So ε ρ := fun e => .ex ⟨c, none⟩ e
end
section
variable {ε α β ρ : Type} {e : ε} {N C B : ε → Prop} {T : ρ → ε → Prop}
/-- it comes to an end well, or is refused -/
def RsX (x : Rs ε α) (Q : α → ε → Prop) (X : Xc → Prop) : Prop := match x with
  | .ok a e => Q a e | .ex c _ => X c | .bad => False
theorem RsX.imp {x : Rs ε α} {P Q : α → ε → Prop} {X Y : Xc → Prop} (h : RsX x P X) (k : ∀ a e, P a e → Q a e) (l : ∀ c, X c → Y c) : RsX x Q Y := by
  cases x with
  | ok a e => exact k a e h
  | ex c e => exact l c h
  | bad => exact h
end
inductive Th where
  | int (i : Int) | bl (b : Bool) | non | str (s : Str) | lst (xs : List Th) | tup (xs : List Th) | dic (kvs : List (Int × Th)) | dct (kvs : List (List Int × Th))
mutual
def thR (G : Hp) : V → Th → Prop
  | v, .int i => v = .int i
  | v, .bl b => v = .bl b
  | v, .non => v = .non
  | v, .str s => v = .str s
  | v, .lst xs => ∃ L vs, v = .ref L ∧ G L = some (.lst vs) ∧ thRs G vs xs
  | v, .tup xs => ∃ L vs, v = .ref L ∧ G L = some (.tup vs) ∧ thRs G vs xs
  | v, .dic kvs => ∃ L ws, v = .ref L ∧ G L = some (.dK ws) ∧ thRd G ws kvs
  | v, .dct kvs => ∃ L ws, v = .ref L ∧ G L = some (.dT ws) ∧ thRt G ws kvs
def thRs (G : Hp) : List V → List Th → Prop
  | vs, [] => vs = []
  | vs, x :: xs => ∃ v ws, vs = v :: ws ∧ thR G v x ∧ thRs G ws xs
def thRd (G : Hp) : List (Key × V) → List (Int × Th) → Prop
  | vs, [] => vs = []
  | vs, x :: xs => ∃ v ws, vs = (.inl x.1, v) :: ws ∧ thR G v x.2 ∧ thRd G ws xs
def thRt (G : Hp) : List (List Key × V) → List (List Int × Th) → Prop
  | vs, [] => vs = []
  | vs, x :: xs => ∃ v ws, vs = (x.1.map Sum.inl, v) :: ws ∧ thR G v x.2 ∧ thRt G ws xs
end
mutual
theorem thR.mono {G G' : Hp} (s : Sub G G') : ∀ {v : V} {t : Th}, thR G v t → thR G' v t
  | v, .int i, h => by unfold thR at h ⊢; exact h
  | v, .bl b, h => by unfold thR at h ⊢; exact h
  | v, .non, h => by unfold thR at h ⊢; exact h
  | v, .str x, h => by unfold thR at h ⊢; exact h
  | v, .lst xs, h => by
    unfold thR at h ⊢
    obtain ⟨L, vs, h1, h2, h3⟩ := h
    exact ⟨L, vs, h1, s _ _ h2, thRs.mono s h3⟩
  | v, .tup xs, h => by
    unfold thR at h ⊢
    obtain ⟨L, vs, h1, h2, h3⟩ := h
    exact ⟨L, vs, h1, s _ _ h2, thRs.mono s h3⟩
  | v, .dic kvs, h => by
    unfold thR at h ⊢
    obtain ⟨L, vs, h1, h2, h3⟩ := h
    exact ⟨L, vs, h1, s _ _ h2, thRd.mono s h3⟩
  | v, .dct kvs, h => by
    unfold thR at h ⊢
    obtain ⟨L, vs, h1, h2, h3⟩ := h
    exact ⟨L, vs, h1, s _ _ h2, thRt.mono s h3⟩
theorem thRs.mono {G G' : Hp} (s : Sub G G') : ∀ {vs : List V} {ts : List Th}, thRs G vs ts → thRs G' vs ts
  | vs, [], h => by unfold thRs at h ⊢; exact h
  | vs, x :: xs, h => by
    unfold thRs at h ⊢
    obtain ⟨v, ws, h1, h2, h3⟩ := h
    exact ⟨v, ws, h1, thR.mono s h2, thRs.mono s h3⟩
theorem thRd.mono {G G' : Hp} (s : Sub G G') : ∀ {vs : List (Key × V)} {ts : List (Int × Th)}, thRd G vs ts → thRd G' vs ts
  | vs, [], h => by unfold thRd at h ⊢; exact h
  | vs, x :: xs, h => by
    unfold thRd at h ⊢
    obtain ⟨v, ws, h1, h2, h3⟩ := h
    exact ⟨v, ws, h1, thR.mono s h2, thRd.mono s h3⟩
theorem thRt.mono {G G' : Hp} (s : Sub G G') : ∀ {vs : List (List Key × V)} {ts : List (List Int × Th)}, thRt G vs ts → thRt G' vs ts
  | vs, [], h => by unfold thRt at h ⊢; exact h
  | vs, x :: xs, h => by
    unfold thRt at h ⊢
    obtain ⟨v, ws, h1, h2, h3⟩ := h
    exact ⟨v, ws, h1, thR.mono s h2, thRt.mono s h3⟩
end
def rTh : Rep Th := ⟨fun _ G v t => thR G v t, fun s h => thR.mono s h⟩
theorem thRs_a2 {G : Hp} {K : PySem.W.Frag} : ∀ {vs : List V} {ts : List Th}, thRs G vs ts ↔ A2 (rTh.rel K G) vs ts
  | vs, [] => by
    unfold thRs
    exact ⟨fun h => by rw [h]; exact .nil, fun h => by cases h; rfl⟩
  | vs, x :: xs => by
    unfold thRs
    constructor
    · rintro ⟨v, ws, rfl, h2, h3⟩
      exact .cons h2 (thRs_a2.mp h3)
    · intro h
      cases h with
      | cons h1 h2 => exact ⟨_, _, rfl, h1, thRs_a2.mpr h2⟩
section
variable {ε α β : Type} {M : Mx} {R : ERep ε}
/-- a cast between frozen values: f tells the other reading -/
def CastR (r : Rep α) (r' : Rep β) (f : α → Option β) : Prop := ∀ K G v a b, r.rel K G v a → f a = some b → r'.rel K G v b
theorem x_cast {t : TE} {r : Rep α} {r' : Rep β} {f : α → Option β} {m : ε → Rs ε α} (c : CastR r r' f) (h : EX M R t (fz r) m) : EX M R t (fz r') (mUn f m) := fun F G H σ e i hR Q p =>
  h F G H σ e i hR _ (p.bind fz_h fun v a e1 G1 H1 i1 s1 R1 r1 p1 => by
    have p1 : Post M R F G1 σ (fz r') Q (.of (f a) e1) := p1
    cases hf : f a with
    | none => rw [hf] at p1; exact p1.elim
    | some b => rw [hf] at p1; exact p1 v G1 H1 H1 i1 .refl ⟨c _ _ _ _ _ r1.1 hf, rfl⟩ R1)
theorem c_int : CastR rI rTh (fun i => some (.int i)) := fun K G v a b h e => by cases e; exact (show thR G v (.int a) by unfold thR; exact h)
theorem c_str : CastR rS rTh (fun i => some (.str i)) := fun K G v a b h e => by cases e; exact (show thR G v (.str a) by unfold thR; exact h)
theorem c_non : CastR rN rTh (fun _ => some .non) := fun K G v a b h e => by cases e; exact (show thR G v .non by unfold thR; exact h)
theorem c_lst : CastR (rz (oL rTh)) rTh (fun xs => some (.lst xs)) := fun K G v a b h e => by
  cases e
  obtain ⟨L, ho, h1, h2, vs, rfl, h3⟩ := h
  exact (show thR G v (.lst a) by unfold thR; exact ⟨L, vs, h1, h2, thRs_a2.mpr h3⟩)
theorem c_tup : CastR (rz (oT rTh)) rTh (fun xs => some (.tup xs)) := fun K G v a b h e => by
  cases e
  obtain ⟨L, ho, h1, h2, vs, rfl, h3⟩ := h
  exact (show thR G v (.tup a) by unfold thR; exact ⟨L, vs, h1, h2, thRs_a2.mpr h3⟩)
/-- casts of the items -/
theorem c_L {r : Rep α} {r' : Rep β} {f : α → β} (c : CastR r r' fun a => some (f a)) : CastR (rz (oL r)) (rz (oL r')) (fun xs => some (xs.map f)) := fun K G v a b h e => by
  cases e
  obtain ⟨L, ho, h1, h2, vs, rfl, h3⟩ := h
  refine ⟨L, _, h1, h2, vs, rfl, ?_⟩
  clear h2
  induction h3 with
  | nil => exact .nil
  | cons h1 _ ih => exact .cons (c _ _ _ _ _ h1 rfl) ih
theorem c_T {r : Rep α} {r' : Rep β} {f : α → β} (c : CastR r r' fun a => some (f a)) : CastR (rz (oT r)) (rz (oT r')) (fun xs => some (xs.map f)) := fun K G v a b h e => by
  cases e
  obtain ⟨L, ho, h1, h2, vs, rfl, h3⟩ := h
  refine ⟨L, _, h1, h2, vs, rfl, ?_⟩
  clear h2
  induction h3 with
  | nil => exact .nil
  | cons h1 _ ih => exact .cons (c _ _ _ _ _ h1 rfl) ih
def asL : Th → Option (List Th) | .lst xs => some xs | _ => none
def asT : Th → Option (List Th) | .tup xs => some xs | _ => none
def asI : Th → Option Int | .int i => some i | _ => none
theorem c_asL : CastR rTh (rz (oL rTh)) asL := fun K G v a b h e => by
  cases a with
  | lst xs =>
    cases e
    have h : thR G v (.lst b) := h
    unfold thR at h
    obtain ⟨L, vs, h1, h2, h3⟩ := h
    exact ⟨L, _, h1, h2, vs, rfl, thRs_a2.mp h3⟩
  | _ => cases e
theorem c_asT : CastR rTh (rz (oT rTh)) asT := fun K G v a b h e => by
  cases a with
  | tup xs =>
    cases e
    have h : thR G v (.tup b) := h
    unfold thR at h
    obtain ⟨L, vs, h1, h2, h3⟩ := h
    exact ⟨L, _, h1, h2, vs, rfl, thRs_a2.mp h3⟩
  | _ => cases e
theorem c_asI : CastR rTh rI asI := fun K G v a b h e => by
  cases a with
  | int i =>
    cases e
    have h : thR G v (.int b) := h
    unfold thR at h
    exact h
  | _ => cases e
/-- all items, or none -/
def allM (f : α → Option β) : List α → Option (List β)
  | [] => some []
  | x :: xs => (f x).bind fun y => (allM f xs).map (y :: ·)
theorem c_all {r : Rep α} {r' : Rep β} {f : α → Option β} (c : CastR r r' f) {K : PySem.W.Frag} {G : Hp} : ∀ {xs : List α} {ys : List β} {vs : List V}, A2 (r.rel K G) vs xs → allM f xs = some ys → A2 (r'.rel K G) vs ys
  | [], ys, vs, h, e => by cases e; cases h; exact .nil
  | x :: xs, ys, vs, h, e => by
    cases h with
    | cons h1 h2 =>
      unfold allM at e
      cases hx : f x with
      | none => rw [hx] at e; cases e
      | some y =>
        rw [hx] at e
        cases ha : allM f xs with
        | none => rw [ha] at e; cases e
        | some zs =>
          rw [ha] at e
          cases e
          exact .cons (c _ _ _ _ _ h1 hx) (c_all c h2 ha)
theorem c_pL {r : Rep α} {r' : Rep β} {f : α → Option β} (c : CastR r r' f) : CastR (rz (oL r)) (rz (oL r')) (allM f) := fun K G v a b h e => by
  obtain ⟨L, ho, h1, h2, vs, rfl, h3⟩ := h
  exact ⟨L, _, h1, h2, vs, rfl, c_all c h3 e⟩
theorem c_pT {r : Rep α} {r' : Rep β} {f : α → Option β} (c : CastR r r' f) : CastR (rz (oT r)) (rz (oT r')) (allM f) := fun K G v a b h e => by
  obtain ⟨L, ho, h1, h2, vs, rfl, h3⟩ := h
  exact ⟨L, _, h1, h2, vs, rfl, c_all c h3 e⟩
def kindOf : Th → String
  | .int _ => "int" | .bl _ => "bool" | .non => "NoneType" | .str _ => "str" | .lst _ => "list" | .tup _ => "tuple" | .dic _ => "dict" | .dct _ => "dict"
def isK (T k : String) : Bool := k == T || (k == "bool" && T == "int")
def isT (T : String) (t : Th) : Bool := isK T (kindOf t)
def kinds : List String := ["int", "bool", "NoneType", "str", "list", "tuple", "dict"]
theorem kind_mem (t : Th) : kindOf t ∈ kinds := by cases t <;> simp [kindOf, kinds]
theorem th_ty {K : PySem.W.Frag} {G H : Hp} {v : V} {t : Th} (s : Sub G H) (h : thR G v t) : TyX K H v (.type (kindOf t)) := by
  cases t with
  | int i => unfold thR at h; rw [h]; exact .base (.int i)
  | bl b => unfold thR at h; rw [h]; exact .base (.bl b)
  | non => unfold thR at h; rw [h]; exact .base .non
  | str x => unfold thR at h; rw [h]; exact .base (.str x)
  | lst xs => unfold thR at h; obtain ⟨L, vs, h1, h2, h3⟩ := h; rw [h1]; exact .base (.lst (s _ _ h2))
  | tup xs => unfold thR at h; obtain ⟨L, vs, h1, h2, h3⟩ := h; rw [h1]; exact .base (.tup (s _ _ h2))
  | dic xs => unfold thR at h; obtain ⟨L, vs, h1, h2, h3⟩ := h; rw [h1]; exact .base (.dK (s _ _ h2))
  | dct xs => unfold thR at h; obtain ⟨L, vs, h1, h2, h3⟩ := h; rw [h1]; exact .base (.dT (s _ _ h2))
def gIsTh (T : String) (p : Th × Unit) : Option Bool := some (isT T p.1)
theorem v_isTh {K : PySem.W.Frag} {T : String} (hk : ∀ (K : PySem.W.Frag) (t : Th), PySem.W.kitOne K (.type (kindOf t)) (.type T) = some (isT T t)) : VR K (rIsi K) (aCons (ir rTh) (aOne (ir (rTy T)))) rB (gIsTh T) := fun G H v a c Q s ⟨x, ws, h0, h1, y, h2, h3⟩ hg k => by
  cases hg; subst h0 h2
  rw [show y = .ty T from h3]
  exact ⟨x, _, _, _, isT T a.1, rfl, .ty T, th_ty s h1, hk K a.1, k _ G H (.refl s) rfl⟩
theorem k_list (K : PySem.W.Frag) (t : Th) : PySem.W.kitOne K (.type (kindOf t)) (.type "list") = some (isT "list" t) := kit_ty ((by decide +kernel : ∀ k ∈ kinds, kitB k "list" = some (isK "list" k)) _ (kind_mem t))
end
open LamX (CodeO TabB LamS lamEnv lamCx)
open LamX (CodeO)
def TabG (P : Addr) (q : Str) (G H : Hp) : Prop := ∃ ps : Array Value, H P = some (.tbl ps) ∧ G P = none ∧ TriplesOk ps.toList ∧ ∀ pos cv, codeAmong pos ps.toList = some cv → ∃ c, cv = .ref c ∧ G c = some (CodeO c q)
theorem TabG.mono {P : Addr} {q : Str} {G G' H H' : Hp} (t : TabG P q G H) (g : Sub G G') (h : Sub H H') (n : ∀ b, H b ≠ none → G' b ≠ none → G b ≠ none) : TabG P q G' H' := by
  obtain ⟨ps, h1, h2, h3, h4⟩ := t
  refine ⟨ps, h _ _ h1, ?_, h3, fun pos cv hc => let ⟨c, e1, e2⟩ := h4 pos cv hc; ⟨c, e1, g _ _ e2⟩⟩
  cases z : G' P with
  | none => rfl
  | some u => exact absurd h2 (n P (by rw [h1]; intro z; cases z) (by rw [z]; intro z; cases z))
theorem TabG.hide {P L : Addr} {q : Str} {G H : Hp} (t : TabG P q G H) (n : P ≠ L) : TabG P q G (hide H L) := by
  obtain ⟨ps, h1, h2, h3, h4⟩ := t
  exact ⟨ps, by rw [hide_ne n]; exact h1, h2, h3, h4⟩
section
variable {ν ν' α β γ ε ρ ι : Type} {M : Mx} {R : ERep ε} {F : Frm} {G G1 H : Hp} {σ : Sg} {D : Ends}
/-- the names of a def without those that hold what may change -/
structure Wk (R : ERep ε) (kl : ε → ε) : Prop where
  go : ∀ {K F F' G H H' σ e}, R.rel K F G H σ e → R.rel K F' G H' σ (kl e)
theorem Wk.nil : Wk eNil id := ⟨fun h => h⟩
theorem Wk.fr {r : Rep α} {kl : ε → ε} (h : Wk R kl) : Wk (eFr r R) (fun e => (e.1, kl e.2)) := ⟨fun ⟨o, σ', h1, h2, h3⟩ => ⟨o, σ', h1, h2, h.go h3⟩⟩
def Rs.out (x : Rs ε α) : Rs Unit α := match x with
  | .ok a _ => .ok a () | .ex c _ => .ex c () | .bad => .bad
@[simp] theorem Rs.out_ok {a : α} {e : ε} : (Rs.ok a e).out = .ok a () := rfl
@[simp] theorem Rs.out_ex {c : Xc} {e : ε} : (Rs.ex c e : Rs ε α).out = .ex c () := rfl
@[simp] theorem Rs.out_bad : (Rs.bad : Rs ε α).out = .bad := rfl
/-- told(lambda: ..): told's mirror of what comes of the lambda -/
def mLam (told : Rs Unit α → Rs Unit β) (kl : ε → ε) (m : ε → Rs ε α) : ε → Rs ε β := fun e => (told (m (kl e)).out).run e
end
open PySem.W (tabObj)
section
variable {K : PySem.W.Frag} {α β γ ε ρ : Type} {w : World} {P : Program}
def toL (a : α) : Option (α ⊕ β) := some (.inl a)
def toR (b : β) : Option (α ⊕ β) := some (.inr b)
end
section
variable {ε α β ρ : Type} {M : Mx} {R : ERep ε}
theorem rp_lam {told : Rs Unit α → Rs Unit β} {kl : ε → ε} {m : ε → Rs ε α} {e : ε} {Q : β → ε → Prop} : RsP (mLam told kl m e) Q = RsP (told (m (kl e)).out) fun b _ => Q b e := by
  unfold mLam
  exact rp_run
end
section
variable {ε ε' α β γ ρ ι κ : Type} {X : Xc → Prop}
def RxP0 (X : Xc → Prop) (x : Rs ε α) (Q : α → ε → Prop) : Prop := match x with
  | .ok a e => Q a e | .ex c _ => X c | .bad => False
def SxP0 (X : Xc → Prop) (x : So ε ρ) (N C B : ε → Prop) (T : ρ → ε → Prop) : Prop := match x with
  | .nx e => N e | .ct e => C e | .bk e => B e | .rt a e => T a e | .ex c _ => X c | .bad => False
variable {Q : α → ε → Prop} {N C B : ε → Prop} {T : ρ → ε → Prop} {a : α} {e : ε}
theorem RxP0.imp {x : Rs ε α} {P Q : α → ε → Prop} (h : RxP0 X x P) (k : ∀ a e, P a e → Q a e) : RxP0 X x Q := by
  cases x with
  | ok a e => exact k a e h
  | ex c e => exact h
  | bad => exact h
theorem SxP0.imp {x : So ε ρ} {N N' C C' B B' : ε → Prop} {T T' : ρ → ε → Prop} (h : SxP0 X x N C B T) (n : ∀ e, N e → N' e) (c : ∀ e, C e → C' e) (b : ∀ e, B e → B' e) (t : ∀ a e, T a e → T' a e) : SxP0 X x N' C' B' T' := by
  cases x with
  | nx e => exact n e h
  | ct e => exact c e h
  | bk e => exact b e h
  | rt a e => exact t a e h
  | ex _ _ => exact h
  | bad => exact h
theorem rx_ok_0 : RxP0 X (.ok a e) Q = Q a e := propext ⟨fun h => h, fun h => h⟩
theorem rx_bad_0 : RxP0 X (.bad : Rs ε α) Q = False := propext ⟨fun h => h, fun h => h⟩
theorem rx_of_0 {o : Option α} : RxP0 X (.of o e) Q = OpP0 o fun a => Q a e := by cases o <;> rfl
theorem rx_bind_0 {x : Rs ε β} {f : β → ε → Rs ε α} : RxP0 X (x.bind f) Q = RxP0 X x fun b e1 => RxP0 X (f b e1) Q := by cases x <;> rfl
theorem rx_run_0 {x : Rs Unit α} : RxP0 X (x.run e) Q = RsP0 x fun b _ => Q b e := by cases x <;> rfl
theorem rx_ite_0 {c : Prop} [Decidable c] {x y : Rs ε α} : RxP0 X (if c then x else y) Q = if c then RxP0 X x Q else RxP0 X y Q := by split <;> rfl
theorem sx_nx_0 : SxP0 X (.nx e : So ε ρ) N C B T = N e := propext ⟨fun h => h, fun h => h⟩
theorem sx_ct_0 : SxP0 X (.ct e : So ε ρ) N C B T = C e := propext ⟨fun h => h, fun h => h⟩
theorem sx_bk_0 : SxP0 X (.bk e : So ε ρ) N C B T = B e := propext ⟨fun h => h, fun h => h⟩
theorem sx_rt_0 {r : ρ} : SxP0 X (.rt r e) N C B T = T r e := propext ⟨fun h => h, fun h => h⟩
theorem sx_so_0 {x : Rs ε α} {f : α → ε → So ε ρ} : SxP0 X (x.so f) N C B T = RxP0 X x fun a e1 => SxP0 X (f a e1) N C B T := by cases x <;> rfl
theorem sx_ite_0 {c : Prop} [Decidable c] {x y : So ε ρ} : SxP0 X (if c then x else y) N C B T = if c then SxP0 X x N C B T else SxP0 X y N C B T := by split <;> rfl
theorem sx_seq_0 {m n : ε → So ε ρ} : SxP0 X (mSeq m n e) N C B T = SxP0 X (m e) (fun e1 => SxP0 X (n e1) N C B T) C B T := by unfold mSeq; cases m e <;> rfl
theorem sx_kill_0 {k : ε → ε} {m : ε → So ε ρ} : SxP0 X (mKill k m e) N C B T = SxP0 X (m e) (fun e1 => N (k e1)) (fun e1 => C (k e1)) (fun e1 => B (k e1)) T := by unfold mKill; cases m e <;> rfl
theorem sx_for_0 {m : ε → Rs ε (List α)} {pt : α → ε → ε} {b : ε → So ε ρ} : SxP0 X (mFor m pt b e) N C B T = RxP0 X (m e) fun xs e1 => SxP0 X (mLoop (fun x e => b (pt x e)) xs e1) N C B T := by unfold mFor; rw [sx_so_0]
theorem sx_ret_0 {m : ε → Rs ε ρ} : SxP0 X (mRet m e) N C B T = RxP0 X (m e) T := by unfold mRet; rw [sx_so_0]; rfl
theorem sx_drop_0 {m : ε → Rs ε α} : SxP0 X (mDrop m e : So ε ρ) N C B T = RxP0 X (m e) fun _ e1 => N e1 := by unfold mDrop; rw [sx_so_0]; rfl
theorem sx_set_0 {l : Ln ε α} {m : ε → Rs ε α} : SxP0 X (mSet l m e : So ε ρ) N C B T = RxP0 X (m e) fun a e1 => N (l.put (some a) e1) := by unfold mSet; rw [sx_so_0]; rfl
theorem sx_asgN_0 {m : ε → Rs ε α} {pt : α → ε → ε} : SxP0 X (mAsgN m pt e : So ε ρ) N C B T = RxP0 X (m e) fun a e1 => N (pt a e1) := by unfold mAsgN; rw [sx_so_0]; rfl
theorem sx_if_0 {c : ε → Rs ε Bool} {m n : ε → So ε ρ} : SxP0 X (mIfS c m n e) N C B T = RxP0 X (c e) fun b e1 => if b = true then SxP0 X (m e1) N C B T else SxP0 X (n e1) N C B T := by
  unfold mIfS; rw [sx_so_0]; congr; funext b e1; exact sx_ite_0
theorem sx_next_0 : SxP0 X (mNext e : So ε ρ) N C B T = N e := propext ⟨fun h => h, fun h => h⟩
theorem sx_mbk_0 : SxP0 X (mBrk e : So ε ρ) N C B T = B e := propext ⟨fun h => h, fun h => h⟩
theorem sx_mct_0 : SxP0 X (mCt e : So ε ρ) N C B T = C e := propext ⟨fun h => h, fun h => h⟩
theorem rx_un_0 {g : β → Option α} {m : ε → Rs ε β} : RxP0 X (mUn g m e) Q = RxP0 X (m e) fun b e1 => OpP0 (g b) fun a => Q a e1 := by unfold mUn; rw [rx_bind_0]; congr; funext b e1; exact rx_of_0
theorem rx_op_0 {g : β → γ → Option α} {m : ε → Rs ε β} {n : ε → Rs ε γ} : RxP0 X (mOp g m n e) Q = RxP0 X (m e) fun b e1 => RxP0 X (n e1) fun c e2 => OpP0 (g b c) fun a => Q a e2 := by
  unfold mOp; rw [rx_bind_0]; congr; funext b e1; rw [rx_bind_0]; congr; funext c e2; exact rx_of_0
theorem rx_var_0 {l : Ln ε α} : RxP0 X (mVar l e) Q = OpP0 (l.get e) fun a => Q a e := rx_of_0
theorem rx_move_0 {l : Ln ε α} : RxP0 X (mMove l e) Q = OpP0 (l.get e) fun a => Q a (l.put none e) := rx_of_0
theorem rx_c_0 {a : α} : RxP0 X (mC a e) Q = Q a e := propext ⟨fun h => h, fun h => h⟩
theorem rx_opL_0 {g : β → γ → Option α} {l : Ln ε β} {m : ε → Rs ε γ} : RxP0 X (mOpL g l m e) Q = OpP0 (l.get e) fun _ => RxP0 X (m e) fun c e1 => OpP0 (l.get e1) fun b => OpP0 (g b c) fun a => Q a e1 := by
  unfold mOpL
  cases l.get e with
  | none => rfl
  | some x =>
    simp only [rx_bind_0, OpP0]
    congr; funext c e1; rw [rx_var_0]; congr; funext b; exact rx_of_0
theorem rx_pair_0 {m : ε → Rs ε α} {n : ε → Rs ε β} {Q : α × β → ε → Prop} : RxP0 X (mPair m n e) Q = RxP0 X (m e) fun a e1 => RxP0 X (n e1) fun b e2 => Q (a, b) e2 := by unfold mPair; rw [rx_bind_0]; congr; funext a e1; rw [rx_bind_0]; rfl
theorem rx_pairL_0 {l : Ln ε α} {n : ε → Rs ε β} {Q : α × β → ε → Prop} : RxP0 X (mPairL l n e) Q = OpP0 (l.get e) fun _ => RxP0 X (n e) fun b e1 => OpP0 (l.get e1) fun a => Q (a, b) e1 := by
  unfold mPairL
  cases l.get e with
  | none => rfl
  | some x =>
    simp only [rx_bind_0, OpP0]
    congr; funext c e1; rw [rx_var_0]; rfl
theorem rx_cons_0 {m : ε → Rs ε α} {n : ε → Rs ε (List α)} {Q : List α → ε → Prop} : RxP0 X (mCons m n e) Q = RxP0 X (m e) fun a e1 => RxP0 X (n e1) fun b e2 => Q (a :: b) e2 := by unfold mCons; rw [rx_bind_0]; congr; funext a e1; rw [rx_bind_0]; rfl
theorem rx_call_0 {f : β → Rs Unit α} {m : ε → Rs ε β} : RxP0 X (mCall f m e) Q = RxP0 X (m e) fun b e1 => RsP0 (f b) fun a _ => Q a e1 := by unfold mCall; rw [rx_bind_0]; congr; funext b e1; exact rx_run_0
theorem rx_callI_0 {l : Ln ε ι} {f : ι → β → Rs ι α} {m : ε → Rs ε β} : RxP0 X (mCallI l f m e) Q = OpP0 (l.get e) fun _ => RxP0 X (m e) fun b e1 => OpP0 (l.get e1) fun s => RsP0 (f s b) fun a s' => Q a (l.put (some s') (l.put none e1)) := by
  unfold mCallI
  cases l.get e with
  | none => rfl
  | some x =>
    simp only [rx_bind_0, OpP0]
    congr; funext b e1
    cases l.get e1 with
    | none => rfl
    | some s => cases h : f s b <;> simp only [h] <;> rfl
theorem rx_bm_0 {l : Ln ε ι} {g : ι → β → Option (α × ι)} {m : ε → Rs ε β} : RxP0 X (mBM l g m e) Q = OpP0 (l.get e) fun _ => RxP0 X (m e) fun b e1 => OpP0 (l.get e1) fun s => OpP0 (g s b) fun p => Q p.1 (l.put (some p.2) (l.put none e1)) := by
  unfold mBM
  cases l.get e with
  | none => rfl
  | some x =>
    simp only [rx_bind_0, OpP0]
    congr; funext b e1
    cases l.get e1 with
    | none => rfl
    | some s => cases h : g s b <;> simp only [h] <;> rfl
theorem rx_bm0_0 {l : Ln ε ι} {g : ι → Unit → Option (α × ι)} : RxP0 X (mBM0 l g e) Q = OpP0 (l.get e) fun _ => OpP0 (l.get e) fun s => OpP0 (g s ()) fun p => Q p.1 (l.put (some p.2) (l.put none e)) := rx_bm_0
theorem sx_setI_0 {l : Ln ε γ} {g : γ → α → β → Option γ} {mi : ε → Rs ε α} {m : ε → Rs ε β} : SxP0 X (mSetI l g mi m e : So ε ρ) N C B T = RxP0 X (m e) fun y e1 => OpP0 (l.get e1) fun _ => RxP0 X (mi e1) fun x e2 => OpP0 (l.get e2) fun s => OpP0 (g s x y) fun s' => N (l.put (some s') (l.put none e2)) := by
  unfold mSetI
  rw [sx_so_0]; congr; funext y e1
  cases l.get e1 with
  | none => rfl
  | some s =>
    simp only [sx_so_0, OpP0]
    congr; funext x e2
    cases l.get e2 with
    | none => rfl
    | some s => cases h : g s x y <;> simp only [h] <;> rfl
theorem rx_not_0 {m : ε → Rs ε Bool} {Q : Bool → ε → Prop} : RxP0 X (mNot m e) Q = RxP0 X (m e) fun b e1 => Q (!b) e1 := by unfold mNot; rw [rx_bind_0]; rfl
theorem rx_and_0 {m n : ε → Rs ε Bool} {Q : Bool → ε → Prop} : RxP0 X (mAnd m n e) Q = RxP0 X (m e) fun b e1 => if b = true then RxP0 X (n e1) Q else Q false e1 := by unfold mAnd; rw [rx_bind_0]; congr; funext b e1; exact rx_ite_0
theorem rx_or_0 {m n : ε → Rs ε Bool} {Q : Bool → ε → Prop} : RxP0 X (mOr m n e) Q = RxP0 X (m e) fun b e1 => if b = true then Q true e1 else RxP0 X (n e1) Q := by unfold mOr; rw [rx_bind_0]; congr; funext b e1; exact rx_ite_0
theorem rx_if_0 {c : ε → Rs ε Bool} {m n : ε → Rs ε α} : RxP0 X (mIf c m n e) Q = RxP0 X (c e) fun b e1 => if b = true then RxP0 X (m e1) Q else RxP0 X (n e1) Q := by unfold mIf; rw [rx_bind_0]; congr; funext b e1; exact rx_ite_0
theorem rx_chain_0 {g : α → β → Option Bool} {g' : β → γ → Option Bool} {m : ε → Rs ε α} {n : ε → Rs ε β} {k : ε → Rs ε γ} {Q : Bool → ε → Prop} : RxP0 X (mChain g g' m n k e) Q = RxP0 X (m e) fun a e1 => RxP0 X (n e1) fun b e2 => OpP0 (g a b) fun c => if c = true then RxP0 X (k e2) fun d e3 => OpP0 (g' b d) fun z => Q z e3 else Q false e2 := by
  unfold mChain
  rw [rx_bind_0]; congr; funext a e1; rw [rx_bind_0]; congr; funext b e2; rw [rx_bind_0, rx_of_0]; congr; funext c; rw [rx_ite_0, rx_bind_0]
  split
  · congr; funext d e3; exact rx_of_0
  · rfl
theorem rx_mSome_0 {m : ε → Rs ε α} {Q : Option α → ε → Prop} : RxP0 X (mSome m e) Q = RxP0 X (m e) fun a e1 => Q (some a) e1 := by unfold mSome; rw [rx_bind_0]; rfl
theorem rx_mNone_0 {m : ε → Rs ε Unit} {Q : Option α → ε → Prop} : RxP0 X (mNone m e) Q = RxP0 X (m e) fun a e1 => Q none e1 := by unfold mNone; rw [rx_bind_0]; rfl
theorem rx_part_0 {m : ε → Rs ε Int} {Q : Option Int → ε → Prop} : RxP0 X (mPart m e) Q = RxP0 X (m e) fun a e1 => Q (some a) e1 := by unfold mPart; rw [rx_bind_0]; rfl
theorem rx_sl_0 {g : β → Option Int → Option Int → Option α} {m : ε → Rs ε β} {lo hi : ε → Rs ε (Option Int)} : RxP0 X (mSl g m lo hi e) Q = RxP0 X (m e) fun b e1 => RxP0 X (lo e1) fun l e2 => RxP0 X (hi e2) fun u e3 => OpP0 (g b l u) fun a => Q a e3 := by
  unfold mSl
  rw [rx_bind_0]; congr; funext b e1; rw [rx_bind_0]; congr; funext l e2; rw [rx_bind_0]; congr; funext u e3; exact rx_of_0
theorem rx_slL_0 {g : β → Option Int → Option Int → Option α} {l : Ln ε β} {lo hi : ε → Rs ε (Option Int)} : RxP0 X (mSlL g l lo hi e) Q = OpP0 (l.get e) fun _ => RxP0 X (lo e) fun l1 e2 => RxP0 X (hi e2) fun u e3 => OpP0 (l.get e3) fun b => OpP0 (g b l1 u) fun a => Q a e3 := by
  unfold mSlL
  cases l.get e with
  | none => rfl
  | some x =>
    simp only [rx_bind_0, OpP0]
    congr; funext l1 e2; congr; funext u e3; rw [rx_var_0]; congr; funext b; exact rx_of_0
theorem rx_rng1_0 {m : ε → Rs ε Int} {Q : List Int → ε → Prop} : RxP0 X (mRng1 m e) Q = RxP0 X (m e) fun n e1 => bigI n = true ∧ Q (rng 0 n) e1 := by
  unfold mRng1; rw [rx_bind_0]; congr; funext n e1; rw [rx_ite_0]
  by_cases h : bigI n = true
  · simp [h, rx_ok_0]
  · simp [h, rx_bad_0]
theorem rx_rng2_0 {m : ε → Rs ε (Int × Int)} {Q : List Int → ε → Prop} : RxP0 X (mRng2 m e) Q = RxP0 X (m e) fun n e1 => (bigI n.1 = true ∧ bigI n.2 = true) ∧ Q (rng n.1 n.2) e1 := by
  unfold mRng2; rw [rx_bind_0]; congr; funext n e1; rw [rx_ite_0]
  by_cases h : bigI n.1 = true ∧ bigI n.2 = true
  · simp [h, rx_ok_0]
  · simp [h, rx_bad_0]
theorem rx_enum_0 {m : ε → Rs ε (List α)} {Q : List (Int × α) → ε → Prop} : RxP0 X (mEnum m e) Q = RxP0 X (m e) fun xs e1 => Q (enumF xs) e1 := by unfold mEnum; rw [rx_bind_0]; rfl
theorem rx_lock_0 {l : Ln ε γ} {m : ε → Rs ε α} : RxP0 X (mLock l m e) Q = OpP0 (l.get e) fun x => RsP0 (m (l.put (some x) e)) fun a e1 => Q a (l.put (some x) (l.put none e1)) := by
  unfold mLock
  cases l.get e with
  | none => rfl
  | some x => simp only [OpP0]; cases m (l.put (some x) e) <;> rfl
theorem rx_dget2_0 [DecidableEq κ] {l : Ln ε (List (κ × β))} {m : ε → Rs ε κ} {x : ε → Rs ε β} {Q : β → ε → Prop} : RxP0 X (mDGet2 l m x e) Q = OpP0 (l.get e) fun _ => RxP0 X (m e) fun a e1 => RxP0 X (x e1) fun b e2 => OpP0 (l.get e2) fun kbs => Q ((dget kbs a).getD b) e2 := by
  unfold mDGet2
  cases l.get e with
  | none => rfl
  | some y =>
    simp only [rx_bind_0, OpP0]
    congr; funext a e1; congr; funext b e2; rw [rx_var_0]; rfl
theorem rx_keys_0 {l : Ln ε (List (κ × β))} {Q : List κ → ε → Prop} : RxP0 X (mKeys l e) Q = OpP0 (l.get e) fun kbs => Q (keysOf kbs) e := by unfold mKeys; rw [rx_bind_0, rx_var_0]; rfl
theorem rx_lc_0 {it : ε → Rs ε (List α)} {pt : α → ε → ε} {tt : ε → Rs ε Bool} {te : ε → Rs ε β} {kill : ε → ε} {rst : ε → ε → ε} {Q : List β → ε → Prop} : RxP0 X (mLc it pt tt te kill rst e) Q = RxP0 X (it e) fun xs e1 => xs.length ≤ 1000000 ∧ RxP0 X (lcR pt tt te kill xs (kill e1) []) fun ys e2 => Q ys (rst e1 e2) := by
  unfold mLc; rw [rx_bind_0]; congr; funext xs e1; rw [rx_ite_0]
  by_cases h : xs.length ≤ 1000000
  · simp only [h, if_true, true_and, rx_bind_0]; rfl
  · simp [h, rx_bad_0]
theorem rx_yes_0 {Q : Bool → ε → Prop} : RxP0 X (mYes e) Q = Q true e := propext ⟨fun h => h, fun h => h⟩
theorem rx_runD_0 {x : So ε ρ} {Q : ρ → Unit → Prop} : RxP0 X (x.run none) Q = SxP0 X x (fun _ => False) (fun _ => False) (fun _ => False) fun a _ => Q a () := by cases x <;> rfl
theorem rx_runDS_0 {x : So ε ρ} {d : ρ} {Q : ρ → Unit → Prop} : RxP0 X (x.run (some d)) Q = SxP0 X x (fun _ => Q d ()) (fun _ => False) (fun _ => False) fun a _ => Q a () := by cases x <;> rfl
inductive RxP {ε α : Type} (X : Xc → Prop) : Rs ε α → (α → ε → Prop) → Prop
  | mk {a : α} {e : ε} {Q : α → ε → Prop} (h : Q a e) : RxP X (.ok a e) Q
  | ex {c : Xc} {e : ε} {Q : α → ε → Prop} (h : X c) : RxP X (.ex c e) Q
inductive SxP {ε ρ : Type} (X : Xc → Prop) : So ε ρ → (ε → Prop) → (ε → Prop) → (ε → Prop) → (ρ → ε → Prop) → Prop
  | nx {e : ε} {N C B : ε → Prop} {T : ρ → ε → Prop} (h : N e) : SxP X (.nx e) N C B T
  | ct {e : ε} {N C B : ε → Prop} {T : ρ → ε → Prop} (h : C e) : SxP X (.ct e) N C B T
  | bk {e : ε} {N C B : ε → Prop} {T : ρ → ε → Prop} (h : B e) : SxP X (.bk e) N C B T
  | rt {a : ρ} {e : ε} {N C B : ε → Prop} {T : ρ → ε → Prop} (h : T a e) : SxP X (.rt a e) N C B T
  | ex {c : Xc} {e : ε} {N C B : ε → Prop} {T : ρ → ε → Prop} (h : X c) : SxP X (.ex c e) N C B T
theorem RxP_eq {x : Rs ε α} {Q : α → ε → Prop} : RxP X x Q = RxP0 X x Q := by
  refine propext ⟨fun h => by cases h with | mk h => exact h | ex h => exact h, fun h => ?_⟩
  cases x with
  | ok a e => exact .mk h
  | ex c e => exact .ex h
  | bad => exact h.elim
theorem SxP_eq {x : So ε ρ} {N C B : ε → Prop} {T : ρ → ε → Prop} : SxP X x N C B T = SxP0 X x N C B T := by
  refine propext ⟨fun h => by cases h with | nx h => exact h | ct h => exact h | bk h => exact h | rt h => exact h | ex h => exact h, fun h => ?_⟩
  cases x with
  | nx e => exact .nx h
  | ct e => exact .ct h
  | bk e => exact .bk h
  | rt a e => exact .rt h
  | ex c e => exact .ex h
  | bad => exact h.elim
theorem RxP.of {x : Rs ε α} {Q : α → ε → Prop} (h : RsP x Q) : RxP X x Q := by cases h with | mk h => exact .mk h
theorem SxP.of {x : So ε ρ} (h : SoP x N C B T) : SxP X x N C B T := by
  cases h with
  | nx h => exact .nx h
  | ct h => exact .ct h
  | bk h => exact .bk h
  | rt h => exact .rt h
theorem RxP.none {x : Rs ε α} {P : α → ε → Prop} (h : RxP (fun _ => False) x P) : RsP x P := by
  cases h with
  | mk h => exact .mk h
  | ex h => exact h.elim
theorem RxP.imp {x : Rs ε α} {P Q : α → ε → Prop} (h : RxP X x P) (k : ∀ a e, P a e → Q a e) : RxP X x Q := by
  simp only [RxP_eq, SxP_eq, RsP_eq, SoP_eq, OpP_eq] at *
  exact RxP0.imp h k
theorem SxP.imp {x : So ε ρ} {N N' C C' B B' : ε → Prop} {T T' : ρ → ε → Prop} (h : SxP X x N C B T) (n : ∀ e, N e → N' e) (c : ∀ e, C e → C' e) (b : ∀ e, B e → B' e) (t : ∀ a e, T a e → T' a e) : SxP X x N' C' B' T' := by
  simp only [RxP_eq, SxP_eq, RsP_eq, SoP_eq, OpP_eq] at *
  exact SxP0.imp h n c b t
theorem rx_ok : RxP X (.ok a e) Q = Q a e := by
  simp only [RxP_eq, SxP_eq, RsP_eq, SoP_eq, OpP_eq]
  exact rx_ok_0
theorem rx_bad : RxP X (.bad : Rs ε α) Q = False := by
  simp only [RxP_eq, SxP_eq, RsP_eq, SoP_eq, OpP_eq]
  exact rx_bad_0
theorem rx_of {o : Option α} : RxP X (.of o e) Q = OpP o fun a => Q a e := by
  simp only [RxP_eq, SxP_eq, RsP_eq, SoP_eq, OpP_eq]
  exact rx_of_0
theorem rx_bind {x : Rs ε β} {f : β → ε → Rs ε α} : RxP X (x.bind f) Q = RxP X x fun b e1 => RxP X (f b e1) Q := by
  simp only [RxP_eq, SxP_eq, RsP_eq, SoP_eq, OpP_eq]
  exact rx_bind_0
theorem rx_run {x : Rs Unit α} : RxP X (x.run e) Q = RsP x fun b _ => Q b e := by
  simp only [RxP_eq, SxP_eq, RsP_eq, SoP_eq, OpP_eq]
  exact rx_run_0
theorem rx_ite {c : Prop} [Decidable c] {x y : Rs ε α} : RxP X (if c then x else y) Q = if c then RxP X x Q else RxP X y Q := by
  simp only [RxP_eq, SxP_eq, RsP_eq, SoP_eq, OpP_eq]
  exact rx_ite_0
theorem sx_nx : SxP X (.nx e : So ε ρ) N C B T = N e := by
  simp only [RxP_eq, SxP_eq, RsP_eq, SoP_eq, OpP_eq]
  exact sx_nx_0
theorem sx_ct : SxP X (.ct e : So ε ρ) N C B T = C e := by
  simp only [RxP_eq, SxP_eq, RsP_eq, SoP_eq, OpP_eq]
  exact sx_ct_0
theorem sx_bk : SxP X (.bk e : So ε ρ) N C B T = B e := by
  simp only [RxP_eq, SxP_eq, RsP_eq, SoP_eq, OpP_eq]
  exact sx_bk_0
theorem sx_rt {r : ρ} : SxP X (.rt r e) N C B T = T r e := by
  simp only [RxP_eq, SxP_eq, RsP_eq, SoP_eq, OpP_eq]
  exact sx_rt_0
theorem sx_so {x : Rs ε α} {f : α → ε → So ε ρ} : SxP X (x.so f) N C B T = RxP X x fun a e1 => SxP X (f a e1) N C B T := by
  simp only [RxP_eq, SxP_eq, RsP_eq, SoP_eq, OpP_eq]
  exact sx_so_0
theorem sx_ite {c : Prop} [Decidable c] {x y : So ε ρ} : SxP X (if c then x else y) N C B T = if c then SxP X x N C B T else SxP X y N C B T := by
  simp only [RxP_eq, SxP_eq, RsP_eq, SoP_eq, OpP_eq]
  exact sx_ite_0
theorem sx_seq {m n : ε → So ε ρ} : SxP X (mSeq m n e) N C B T = SxP X (m e) (fun e1 => SxP X (n e1) N C B T) C B T := by
  simp only [RxP_eq, SxP_eq, RsP_eq, SoP_eq, OpP_eq]
  exact sx_seq_0
theorem sx_kill {k : ε → ε} {m : ε → So ε ρ} : SxP X (mKill k m e) N C B T = SxP X (m e) (fun e1 => N (k e1)) (fun e1 => C (k e1)) (fun e1 => B (k e1)) T := by
  simp only [RxP_eq, SxP_eq, RsP_eq, SoP_eq, OpP_eq]
  exact sx_kill_0
theorem sx_for {m : ε → Rs ε (List α)} {pt : α → ε → ε} {b : ε → So ε ρ} : SxP X (mFor m pt b e) N C B T = RxP X (m e) fun xs e1 => SxP X (mLoop (fun x e => b (pt x e)) xs e1) N C B T := by
  simp only [RxP_eq, SxP_eq, RsP_eq, SoP_eq, OpP_eq]
  exact sx_for_0
theorem sx_ret {m : ε → Rs ε ρ} : SxP X (mRet m e) N C B T = RxP X (m e) T := by
  simp only [RxP_eq, SxP_eq, RsP_eq, SoP_eq, OpP_eq]
  exact sx_ret_0
theorem sx_drop {m : ε → Rs ε α} : SxP X (mDrop m e : So ε ρ) N C B T = RxP X (m e) fun _ e1 => N e1 := by
  simp only [RxP_eq, SxP_eq, RsP_eq, SoP_eq, OpP_eq]
  exact sx_drop_0
theorem sx_set {l : Ln ε α} {m : ε → Rs ε α} : SxP X (mSet l m e : So ε ρ) N C B T = RxP X (m e) fun a e1 => N (l.put (some a) e1) := by
  simp only [RxP_eq, SxP_eq, RsP_eq, SoP_eq, OpP_eq]
  exact sx_set_0
theorem sx_asgN {m : ε → Rs ε α} {pt : α → ε → ε} : SxP X (mAsgN m pt e : So ε ρ) N C B T = RxP X (m e) fun a e1 => N (pt a e1) := by
  simp only [RxP_eq, SxP_eq, RsP_eq, SoP_eq, OpP_eq]
  exact sx_asgN_0
theorem sx_if {c : ε → Rs ε Bool} {m n : ε → So ε ρ} : SxP X (mIfS c m n e) N C B T = RxP X (c e) fun b e1 => if b = true then SxP X (m e1) N C B T else SxP X (n e1) N C B T := by
  simp only [RxP_eq, SxP_eq, RsP_eq, SoP_eq, OpP_eq]
  exact sx_if_0
theorem sx_next : SxP X (mNext e : So ε ρ) N C B T = N e := by
  simp only [RxP_eq, SxP_eq, RsP_eq, SoP_eq, OpP_eq]
  exact sx_next_0
theorem sx_mbk : SxP X (mBrk e : So ε ρ) N C B T = B e := by
  simp only [RxP_eq, SxP_eq, RsP_eq, SoP_eq, OpP_eq]
  exact sx_mbk_0
theorem sx_mct : SxP X (mCt e : So ε ρ) N C B T = C e := by
  simp only [RxP_eq, SxP_eq, RsP_eq, SoP_eq, OpP_eq]
  exact sx_mct_0
theorem rx_un {g : β → Option α} {m : ε → Rs ε β} : RxP X (mUn g m e) Q = RxP X (m e) fun b e1 => OpP (g b) fun a => Q a e1 := by
  simp only [RxP_eq, SxP_eq, RsP_eq, SoP_eq, OpP_eq]
  exact rx_un_0
theorem rx_op {g : β → γ → Option α} {m : ε → Rs ε β} {n : ε → Rs ε γ} : RxP X (mOp g m n e) Q = RxP X (m e) fun b e1 => RxP X (n e1) fun c e2 => OpP (g b c) fun a => Q a e2 := by
  simp only [RxP_eq, SxP_eq, RsP_eq, SoP_eq, OpP_eq]
  exact rx_op_0
theorem rx_var {l : Ln ε α} : RxP X (mVar l e) Q = OpP (l.get e) fun a => Q a e := by
  simp only [RxP_eq, SxP_eq, RsP_eq, SoP_eq, OpP_eq]
  exact rx_var_0
theorem rx_move {l : Ln ε α} : RxP X (mMove l e) Q = OpP (l.get e) fun a => Q a (l.put none e) := by
  simp only [RxP_eq, SxP_eq, RsP_eq, SoP_eq, OpP_eq]
  exact rx_move_0
theorem rx_c {a : α} : RxP X (mC a e) Q = Q a e := by
  simp only [RxP_eq, SxP_eq, RsP_eq, SoP_eq, OpP_eq]
  exact rx_c_0
theorem rx_opL {g : β → γ → Option α} {l : Ln ε β} {m : ε → Rs ε γ} : RxP X (mOpL g l m e) Q = OpP (l.get e) fun _ => RxP X (m e) fun c e1 => OpP (l.get e1) fun b => OpP (g b c) fun a => Q a e1 := by
  simp only [RxP_eq, SxP_eq, RsP_eq, SoP_eq, OpP_eq]
  exact rx_opL_0
theorem rx_pair {m : ε → Rs ε α} {n : ε → Rs ε β} {Q : α × β → ε → Prop} : RxP X (mPair m n e) Q = RxP X (m e) fun a e1 => RxP X (n e1) fun b e2 => Q (a, b) e2 := by
  simp only [RxP_eq, SxP_eq, RsP_eq, SoP_eq, OpP_eq]
  exact rx_pair_0
theorem rx_pairL {l : Ln ε α} {n : ε → Rs ε β} {Q : α × β → ε → Prop} : RxP X (mPairL l n e) Q = OpP (l.get e) fun _ => RxP X (n e) fun b e1 => OpP (l.get e1) fun a => Q (a, b) e1 := by
  simp only [RxP_eq, SxP_eq, RsP_eq, SoP_eq, OpP_eq]
  exact rx_pairL_0
theorem rx_cons {m : ε → Rs ε α} {n : ε → Rs ε (List α)} {Q : List α → ε → Prop} : RxP X (mCons m n e) Q = RxP X (m e) fun a e1 => RxP X (n e1) fun b e2 => Q (a :: b) e2 := by
  simp only [RxP_eq, SxP_eq, RsP_eq, SoP_eq, OpP_eq]
  exact rx_cons_0
theorem rx_call {f : β → Rs Unit α} {m : ε → Rs ε β} : RxP X (mCall f m e) Q = RxP X (m e) fun b e1 => RsP (f b) fun a _ => Q a e1 := by
  simp only [RxP_eq, SxP_eq, RsP_eq, SoP_eq, OpP_eq]
  exact rx_call_0
theorem rx_callI {l : Ln ε ι} {f : ι → β → Rs ι α} {m : ε → Rs ε β} : RxP X (mCallI l f m e) Q = OpP (l.get e) fun _ => RxP X (m e) fun b e1 => OpP (l.get e1) fun s => RsP (f s b) fun a s' => Q a (l.put (some s') (l.put none e1)) := by
  simp only [RxP_eq, SxP_eq, RsP_eq, SoP_eq, OpP_eq]
  exact rx_callI_0
theorem rx_bm {l : Ln ε ι} {g : ι → β → Option (α × ι)} {m : ε → Rs ε β} : RxP X (mBM l g m e) Q = OpP (l.get e) fun _ => RxP X (m e) fun b e1 => OpP (l.get e1) fun s => OpP (g s b) fun p => Q p.1 (l.put (some p.2) (l.put none e1)) := by
  simp only [RxP_eq, SxP_eq, RsP_eq, SoP_eq, OpP_eq]
  exact rx_bm_0
theorem rx_bm0 {l : Ln ε ι} {g : ι → Unit → Option (α × ι)} : RxP X (mBM0 l g e) Q = OpP (l.get e) fun _ => OpP (l.get e) fun s => OpP (g s ()) fun p => Q p.1 (l.put (some p.2) (l.put none e)) := by
  simp only [RxP_eq, SxP_eq, RsP_eq, SoP_eq, OpP_eq]
  exact rx_bm0_0
theorem sx_setI {l : Ln ε γ} {g : γ → α → β → Option γ} {mi : ε → Rs ε α} {m : ε → Rs ε β} : SxP X (mSetI l g mi m e : So ε ρ) N C B T = RxP X (m e) fun y e1 => OpP (l.get e1) fun _ => RxP X (mi e1) fun x e2 => OpP (l.get e2) fun s => OpP (g s x y) fun s' => N (l.put (some s') (l.put none e2)) := by
  simp only [RxP_eq, SxP_eq, RsP_eq, SoP_eq, OpP_eq]
  exact sx_setI_0
theorem rx_not {m : ε → Rs ε Bool} {Q : Bool → ε → Prop} : RxP X (mNot m e) Q = RxP X (m e) fun b e1 => Q (!b) e1 := by
  simp only [RxP_eq, SxP_eq, RsP_eq, SoP_eq, OpP_eq]
  exact rx_not_0
theorem rx_and {m n : ε → Rs ε Bool} {Q : Bool → ε → Prop} : RxP X (mAnd m n e) Q = RxP X (m e) fun b e1 => if b = true then RxP X (n e1) Q else Q false e1 := by
  simp only [RxP_eq, SxP_eq, RsP_eq, SoP_eq, OpP_eq]
  exact rx_and_0
theorem rx_or {m n : ε → Rs ε Bool} {Q : Bool → ε → Prop} : RxP X (mOr m n e) Q = RxP X (m e) fun b e1 => if b = true then Q true e1 else RxP X (n e1) Q := by
  simp only [RxP_eq, SxP_eq, RsP_eq, SoP_eq, OpP_eq]
  exact rx_or_0
theorem rx_if {c : ε → Rs ε Bool} {m n : ε → Rs ε α} : RxP X (mIf c m n e) Q = RxP X (c e) fun b e1 => if b = true then RxP X (m e1) Q else RxP X (n e1) Q := by
  simp only [RxP_eq, SxP_eq, RsP_eq, SoP_eq, OpP_eq]
  exact rx_if_0
theorem rx_chain {g : α → β → Option Bool} {g' : β → γ → Option Bool} {m : ε → Rs ε α} {n : ε → Rs ε β} {k : ε → Rs ε γ} {Q : Bool → ε → Prop} : RxP X (mChain g g' m n k e) Q = RxP X (m e) fun a e1 => RxP X (n e1) fun b e2 => OpP (g a b) fun c => if c = true then RxP X (k e2) fun d e3 => OpP (g' b d) fun z => Q z e3 else Q false e2 := by
  simp only [RxP_eq, SxP_eq, RsP_eq, SoP_eq, OpP_eq]
  exact rx_chain_0
theorem rx_mSome {m : ε → Rs ε α} {Q : Option α → ε → Prop} : RxP X (mSome m e) Q = RxP X (m e) fun a e1 => Q (some a) e1 := by
  simp only [RxP_eq, SxP_eq, RsP_eq, SoP_eq, OpP_eq]
  exact rx_mSome_0
theorem rx_mNone {m : ε → Rs ε Unit} {Q : Option α → ε → Prop} : RxP X (mNone m e) Q = RxP X (m e) fun a e1 => Q none e1 := by
  simp only [RxP_eq, SxP_eq, RsP_eq, SoP_eq, OpP_eq]
  exact rx_mNone_0
theorem rx_part {m : ε → Rs ε Int} {Q : Option Int → ε → Prop} : RxP X (mPart m e) Q = RxP X (m e) fun a e1 => Q (some a) e1 := by
  simp only [RxP_eq, SxP_eq, RsP_eq, SoP_eq, OpP_eq]
  exact rx_part_0
theorem rx_sl {g : β → Option Int → Option Int → Option α} {m : ε → Rs ε β} {lo hi : ε → Rs ε (Option Int)} : RxP X (mSl g m lo hi e) Q = RxP X (m e) fun b e1 => RxP X (lo e1) fun l e2 => RxP X (hi e2) fun u e3 => OpP (g b l u) fun a => Q a e3 := by
  simp only [RxP_eq, SxP_eq, RsP_eq, SoP_eq, OpP_eq]
  exact rx_sl_0
theorem rx_slL {g : β → Option Int → Option Int → Option α} {l : Ln ε β} {lo hi : ε → Rs ε (Option Int)} : RxP X (mSlL g l lo hi e) Q = OpP (l.get e) fun _ => RxP X (lo e) fun l1 e2 => RxP X (hi e2) fun u e3 => OpP (l.get e3) fun b => OpP (g b l1 u) fun a => Q a e3 := by
  simp only [RxP_eq, SxP_eq, RsP_eq, SoP_eq, OpP_eq]
  exact rx_slL_0
theorem rx_rng1 {m : ε → Rs ε Int} {Q : List Int → ε → Prop} : RxP X (mRng1 m e) Q = RxP X (m e) fun n e1 => bigI n = true ∧ Q (rng 0 n) e1 := by
  simp only [RxP_eq, SxP_eq, RsP_eq, SoP_eq, OpP_eq]
  exact rx_rng1_0
theorem rx_rng2 {m : ε → Rs ε (Int × Int)} {Q : List Int → ε → Prop} : RxP X (mRng2 m e) Q = RxP X (m e) fun n e1 => (bigI n.1 = true ∧ bigI n.2 = true) ∧ Q (rng n.1 n.2) e1 := by
  simp only [RxP_eq, SxP_eq, RsP_eq, SoP_eq, OpP_eq]
  exact rx_rng2_0
theorem rx_enum {m : ε → Rs ε (List α)} {Q : List (Int × α) → ε → Prop} : RxP X (mEnum m e) Q = RxP X (m e) fun xs e1 => Q (enumF xs) e1 := by
  simp only [RxP_eq, SxP_eq, RsP_eq, SoP_eq, OpP_eq]
  exact rx_enum_0
theorem rx_lock {l : Ln ε γ} {m : ε → Rs ε α} : RxP X (mLock l m e) Q = OpP (l.get e) fun x => RsP (m (l.put (some x) e)) fun a e1 => Q a (l.put (some x) (l.put none e1)) := by
  simp only [RxP_eq, SxP_eq, RsP_eq, SoP_eq, OpP_eq]
  exact rx_lock_0
theorem rx_dget2 [DecidableEq κ] {l : Ln ε (List (κ × β))} {m : ε → Rs ε κ} {x : ε → Rs ε β} {Q : β → ε → Prop} : RxP X (mDGet2 l m x e) Q = OpP (l.get e) fun _ => RxP X (m e) fun a e1 => RxP X (x e1) fun b e2 => OpP (l.get e2) fun kbs => Q ((dget kbs a).getD b) e2 := by
  simp only [RxP_eq, SxP_eq, RsP_eq, SoP_eq, OpP_eq]
  exact rx_dget2_0
theorem rx_keys {l : Ln ε (List (κ × β))} {Q : List κ → ε → Prop} : RxP X (mKeys l e) Q = OpP (l.get e) fun kbs => Q (keysOf kbs) e := by
  simp only [RxP_eq, SxP_eq, RsP_eq, SoP_eq, OpP_eq]
  exact rx_keys_0
theorem rx_lc {it : ε → Rs ε (List α)} {pt : α → ε → ε} {tt : ε → Rs ε Bool} {te : ε → Rs ε β} {kill : ε → ε} {rst : ε → ε → ε} {Q : List β → ε → Prop} : RxP X (mLc it pt tt te kill rst e) Q = RxP X (it e) fun xs e1 => xs.length ≤ 1000000 ∧ RxP X (lcR pt tt te kill xs (kill e1) []) fun ys e2 => Q ys (rst e1 e2) := by
  simp only [RxP_eq, SxP_eq, RsP_eq, SoP_eq, OpP_eq]
  exact rx_lc_0
theorem rx_yes {Q : Bool → ε → Prop} : RxP X (mYes e) Q = Q true e := by
  simp only [RxP_eq, SxP_eq, RsP_eq, SoP_eq, OpP_eq]
  exact rx_yes_0
theorem rx_runD {x : So ε ρ} {Q : ρ → Unit → Prop} : RxP X (x.run none) Q = SxP X x (fun _ => False) (fun _ => False) (fun _ => False) fun a _ => Q a () := by
  simp only [RxP_eq, SxP_eq, RsP_eq, SoP_eq, OpP_eq]
  exact rx_runD_0
theorem rx_runDS {x : So ε ρ} {d : ρ} {Q : ρ → Unit → Prop} : RxP X (x.run (some d)) Q = SxP X x (fun _ => Q d ()) (fun _ => False) (fun _ => False) fun a _ => Q a () := by
  simp only [RxP_eq, SxP_eq, RsP_eq, SoP_eq, OpP_eq]
  exact rx_runDS_0
theorem sx_raise {c : Str} : SxP X (mRaise c e : So ε ρ) N C B T = X ⟨c, none⟩ := propext ⟨fun h => by cases h with | ex h => exact h, fun h => .ex h⟩
theorem sx_asg {m : ε → Rs ε α} {pt : α → ε → Rs ε Unit} : SxP X (mAsg m pt e : So ε ρ) N C B T = RxP X (m e) fun a e1 => RxP X (pt a e1) fun _ e2 => N e2 := by
  unfold mAsg
  rw [sx_so]
  congr
  funext a e1
  rw [sx_so]
  simp only [sx_nx]
theorem rx_unw {m : ε → Rs ε (Option α)} {Q : α → ε → Prop} : RxP X (mUnw m e) Q = RxP X (m e) fun o e1 => OpP o fun a => Q a e1 := by unfold mUnw; rw [rx_bind]; simp only [rx_of]
theorem rx_callE {f : α → Rs Unit ρ} {m : ε → Rs ε α} {Q : ρ → ε → Prop} : RxP X (mCallE f m e) Q = RxP X (m e) fun a e1 => RxP X (f a) fun b _ => Q b e1 := by
  unfold mCallE
  rw [rx_bind]
  congr
  funext a e1
  rw [RxP_eq, RxP_eq]
  cases f a <;> rfl
theorem rx_out {x : Rs ε α} {Q : α → Unit → Prop} : RxP X x.out Q = RxP X x fun a _ => Q a () := by
  rw [RxP_eq, RxP_eq]
  cases x <;> rfl
theorem rp_out {x : Rs ε α} {Q : α → Unit → Prop} : RsP x.out Q = RsP x fun a _ => Q a () := by
  rw [RsP_eq, RsP_eq]
  cases x <;> rfl
end
def Okd (n : Nat) (d : PyData) : Prop := small 80 d = true ∧ cost 80 d ≤ n
theorem Okd.mono {n m : Nat} {d : PyData} (h : Okd n d) (hn : n ≤ m) : Okd m d := ⟨h.1, Nat.le_trans h.2 hn⟩
open PySem.AutoSeq1
section
variable {X : Cx}
variable {K : PySem.W.Frag} {w : World}
def gSsetG (ns : List Int) : Option (List Int) := if ns.length ≤ 100000 then some (sset ns) else none
end
mutual
def Th.enc : Th → PyData
  | .int i => .int i
  | .bl b => .bool b
  | .non => .none
  | .str s => .str s
  | .lst xs => .list (encAll xs)
  | .tup xs => .tuple (encAll xs)
  | .dic kvs => .dict (encKv kvs)
  | .dct kvs => .dict (encKt kvs)
def encAll : List Th → List PyData
  | [] => []
  | x :: xs => x.enc :: encAll xs
def encKv : List (Int × Th) → List (PyData × PyData)
  | [] => []
  | (k, x) :: xs => (.int k, x.enc) :: encKv xs
def encKt : List (List Int × Th) → List (PyData × PyData)
  | [] => []
  | (k, x) :: xs => (.tuple (k.map PyData.int), x.enc) :: encKt xs
end
section
variable {X : Cx} {pins : List (Addr × Obj)} {σ : L2.St} {H : Hp} {s : Shared}
/-- a list that is tracked doesn't stand where sys.modules stands -/
def SMod (base : Heap) : Prop := ∃ m, base.Ns sysModules m
theorem SMod.no (sm : SMod X.base) (I : Inv X pins σ H s) : H sysModules = none := by
  obtain ⟨m, o, es, ep, e, _⟩ := sm
  exact (I.bs _ _ e).2
theorem ints_readsAll {h : Heap} : ∀ {ns : List Int} {us : List Value}, Vals (ns.map V.int) us → ReadsAll h us (ns.map PyData.int) []
  | [], _, r => by cases r; exact .nil
  | n :: ns, _, r => by
    cases r with
    | cons r1 r2 =>
      obtain ⟨t, rfl⟩ := r1
      exact ReadsAll.cons (as := []) (bs := []) (Reads.int n t) (ints_readsAll r2)
mutual
theorem th_reads (I : Inv X pins σ H s) (sm : H sysModules = none) : ∀ (t : Th) (v : V) (u : Value), thR H v t → RelV v u → ∃ as, Reads s.heap u t.enc as ∧ sysModules ∉ as
  | .int i, v, u, h, r => by
    unfold thR at h
    subst h
    obtain ⟨t, rfl⟩ := r
    unfold Th.enc
    exact ⟨[], .int i t, by simp⟩
  | .bl b, v, u, h, r => by
    unfold thR at h
    subst h
    cases r
    unfold Th.enc
    exact ⟨[], .bool b, by simp⟩
  | .non, v, u, h, r => by
    unfold thR at h
    subst h
    cases r
    unfold Th.enc
    exact ⟨[], .none, by simp⟩
  | .str x, v, u, h, r => by
    unfold thR at h
    subst h
    obtain ⟨t, rfl⟩ := r
    unfold Th.enc
    exact ⟨[], .str x t, by simp⟩
  | .lst xs, v, u, h, r => by
    unfold thR at h
    obtain ⟨L, vs, rfl, h2, h3⟩ := h
    cases r
    obtain ⟨z, its, n, rv, hl, e⟩ := I.lstM h2
    obtain ⟨as, q1, q2⟩ := th_readsAll I sm xs vs its h3 rv
    unfold Th.enc
    refine ⟨L :: as, Reads.list e rfl rfl q1, ?_⟩
    rw [List.mem_cons]
    rintro (e | e)
    · rw [← e, sm] at h2
      cases h2
    · exact q2 e
  | .tup xs, v, u, h, r => by
    unfold thR at h
    obtain ⟨L, vs, rfl, h2, h3⟩ := h
    cases r
    obtain ⟨z, its, rv, ⟨o, ho, hc, n, hd⟩⟩ := I.hok L _ h2
    obtain ⟨as, q1, q2⟩ := th_readsAll I sm xs vs its h3 rv
    unfold Th.enc
    exact ⟨as, Reads.tuple ho hc hd q1, q2⟩
  | .dic kvs, v, u, h, r => by
    unfold thR at h
    obtain ⟨L, ws, rfl, h2, h3⟩ := h
    cases r
    obtain ⟨z, zs, vs, rv, ⟨o, es, ep, ho, hx, hd, hk, hp, nd⟩⟩ := I.hok L _ h2
    obtain ⟨as, bs, q1, q2, q3⟩ := th_readsKv I sm kvs ws vs es.toList h3 rv hp
    unfold Th.enc
    refine ⟨L :: as ++ bs, Reads.dict ho hx.1 hd q1 q2, ?_⟩
    rw [List.cons_append, List.mem_cons]
    rintro (e | e)
    · rw [← e, sm] at h2
      cases h2
    · exact q3 e
  | .dct kvs, v, u, h, r => by
    unfold thR at h
    obtain ⟨L, ws, rfl, h2, h3⟩ := h
    cases r
    obtain ⟨z, zs, xs, rv, ⟨o, es, ep, ho, hx, hd, hk, nd⟩⟩ := I.hok L _ h2
    obtain ⟨as, bs, q1, q2, q3⟩ := th_readsKt I sm kvs ws xs h3 rv
    rw [← hk] at q1 q2
    unfold Th.enc
    refine ⟨L :: as ++ bs, Reads.dict ho hx.1 hd q1 q2, ?_⟩
    rw [List.cons_append, List.mem_cons]
    rintro (e | e)
    · rw [← e, sm] at h2
      cases h2
    · exact q3 e
theorem th_readsAll (I : Inv X pins σ H s) (sm : H sysModules = none) : ∀ (ts : List Th) (vs : List V) (us : List Value), thRs H vs ts → Vals vs us → ∃ as, ReadsAll s.heap us (encAll ts) as ∧ sysModules ∉ as
  | [], vs, us, h, r => by
    unfold thRs at h
    subst h
    cases r
    unfold encAll
    exact ⟨[], .nil, by simp⟩
  | t :: ts, vs, us, h, r => by
    unfold thRs at h
    obtain ⟨v, ws, rfl, h1, h2⟩ := h
    cases r with
    | cons r1 r2 =>
      obtain ⟨as, q1, q2⟩ := th_reads I sm t v _ h1 r1
      obtain ⟨bs, p1, p2⟩ := th_readsAll I sm ts ws _ h2 r2
      unfold encAll
      exact ⟨as ++ bs, .cons q1 p1, by rw [List.mem_append]; exact fun z => z.elim q2 p2⟩
theorem th_readsKv (I : Inv X pins σ H s) (sm : H sysModules = none) : ∀ (kvs : List (Int × Th)) (ws : List (Key × V)) (vs : List (Key × Value)) (es : List DictEntry), thRd H ws kvs → KV ws vs → Pairs (mixKind X.prog X.w) es vs →
    ∃ as bs, ReadsAll s.heap (es.map (·.key)) ((encKv kvs).map (·.1)) as ∧ ReadsAll s.heap (es.map (·.val)) ((encKv kvs).map (·.2)) bs ∧ sysModules ∉ as ++ bs
  | [], ws, vs, es, h, r, p => by
    unfold thRd at h
    subst h
    cases r
    cases p
    unfold encKv
    exact ⟨[], [], .nil, .nil, by simp⟩
  | (k, t) :: kvs, ws, vs, es, h, r, p => by
    unfold thRd at h
    obtain ⟨v, ws', rfl, h1, h2⟩ := h
    cases r with
    | cons r1 r2 =>
      cases p with
      | cons p1 p1' p2 =>
        obtain ⟨as, bs, q1, q2, q3⟩ := th_readsKv I sm kvs ws' _ _ h2 r2 p2
        obtain ⟨cs, d1, d2⟩ := th_reads I sm t v _ h1 r1.2
        rename_i kv _ e0 _
        have hk : keyIs kv.1 e0.key = true := p1
        rw [← r1.1] at hk
        rcases keyIs_shape hk with ⟨i, tk, e1, e2⟩ | ⟨x, tk, e1, e2⟩
        · cases e1
          unfold encKv
          refine ⟨[] ++ as, cs ++ bs, .cons (show Reads s.heap e0.key (.int k) [] by rw [e2]; exact Reads.int k tk) q1, .cons (show Reads s.heap e0.val t.enc cs by rw [p1']; exact d1) q2, ?_⟩
          simp only [List.nil_append, List.mem_append] at q3 ⊢
          rintro (z | z | z)
          · exact q3 (.inl z)
          · exact d2 z
          · exact q3 (.inr z)
        · cases e1
theorem th_readsKt (I : Inv X pins σ H s) (sm : H sysModules = none) : ∀ (kvs : List (List Int × Th)) (ws : List (List Key × V)) (xs : List (List Key × Addr × Value)), thRt H ws kvs → Paired (fun (p : List Key × V) (q : List Key × Addr × Value) => p.1 = q.1 ∧ H q.2.1 = some (.tup (p.1.map kV)) ∧ RelV p.2 q.2.2) ws xs →
    ∃ as bs, ReadsAll s.heap ((xs.map (entryOfKey (tupleKind (mixKind X.prog X.w)))).map (·.key)) ((encKt kvs).map (·.1)) as ∧ ReadsAll s.heap ((xs.map (entryOfKey (tupleKind (mixKind X.prog X.w)))).map (·.val)) ((encKt kvs).map (·.2)) bs ∧ sysModules ∉ as ++ bs
  | [], ws, xs, h, r => by
    unfold thRt at h
    subst h
    cases r
    unfold encKt
    exact ⟨[], [], .nil, .nil, by simp⟩
  | (k, t) :: kvs, ws, xs, h, r => by
    unfold thRt at h
    obtain ⟨v, ws', rfl, h1, h2⟩ := h
    cases r with
    | cons r1 r2 =>
      obtain ⟨as, bs, q1, q2, q3⟩ := th_readsKt I sm kvs ws' _ h2 r2
      obtain ⟨cs, d1, d2⟩ := th_reads I sm t v _ h1 r1.2.2
      have hk := r1.2.1
      rw [show (k.map (Sum.inl : Int → Key)).map kV = k.map V.int by rw [List.map_map]; rfl] at hk
      obtain ⟨z, its, rv, ⟨o, ho, hc, n, hd⟩⟩ := I.hok _ _ hk
      unfold encKt
      refine ⟨[] ++ as, cs ++ bs, .cons (Reads.tuple ho hc hd (ints_readsAll rv)) q1, .cons d1 q2, ?_⟩
      simp only [List.nil_append, List.mem_append] at q3 ⊢
      rintro (z | z | z)
      · exact q3 (.inl z)
      · exact d2 z
      · exact q3 (.inr z)
end
end
def rReprT : List V → Hp → VK → Prop := fun xs H Q => ∃ (v : V) (t : Th), xs = [v] ∧ thR H v t ∧ t.enc.showable = true ∧ t.enc.depth ≤ 60 ∧ t.enc.shown.length ≤ 16777216 ∧ Q (.str t.enc.shown) H
theorem call_reprT {X : Cx} (hg : X.A.guards = some []) (hu : X.A.units + 64 < cLine) (sm : SMod X.base) : CallR X (.builtin "repr") rReprT := by
  intro pins s σ H vs us Q I r h
  obtain ⟨v, t, rfl, hd, hs, hz, hc, q⟩ := h
  have hm := sm.no I
  have ref : ∀ L u, v = .ref L → RelV v u → wpAny (model X.prog X.w) X.A (call (.builtin "repr") [u]) (fun u' s' => ∃ w H', Inv X pins σ H' s' ∧ RelV w u' ∧ Q w H') X.xe s := by
    rintro L u rfl r1
    obtain ⟨as, rd, na⟩ := th_reads I hm t _ _ hd r1
    cases r1
    exact repr_of_reads' rd hs (fun _ => na) hg (by omega) (fun _ _ e => e) (fun h' u tk kp => ⟨.str t.enc.shown, H, I.kept kp, ⟨u, rfl⟩, q⟩) (by rw [sizeLine_eq]; exact hc)
  cases r with
  | cons r1 r2 =>
    cases r2
    cases t with
    | int i =>
      unfold thR at hd
      subst hd
      obtain ⟨t, rfl⟩ := r1
      have h' : i.natAbs.log2 < 1920 := by simpa [Th.enc, PyData.showable] using hs
      exact PySem.P.repr_of_int h' ⟨.str (PyData.shown (.int i)), H, I.tok _, ⟨_, rfl⟩, by unfold Th.enc at q; exact q⟩
    | bl b =>
      unfold thR at hd
      subst hd
      cases r1
      cases b with
      | true => exact PySem.P.repr_of_bool ⟨.str (PyData.shown (.bool true)), H, I.tok _, ⟨_, rfl⟩, by unfold Th.enc at q; exact q⟩
      | false => exact PySem.P.repr_of_bool ⟨.str (PyData.shown (.bool false)), H, I.tok _, ⟨_, rfl⟩, by unfold Th.enc at q; exact q⟩
    | non =>
      unfold thR at hd
      subst hd
      cases r1
      exact PySem.P.repr_of_none ⟨.str "None", H, I.tok _, ⟨_, rfl⟩, by unfold Th.enc at q; exact q⟩
    | str x =>
      unfold thR at hd
      subst hd
      obtain ⟨t, rfl⟩ := r1
      refine PySem.P.repr_of_str ⟨.str (PyData.shown (.str x)), H, I.tok _, ⟨_, rfl⟩, by unfold Th.enc at q; exact q⟩ ?_
      rw [sizeLine_eq]
      unfold Th.enc at hc
      exact hc
    | lst xs =>
      have hd' := hd
      unfold thR at hd'
      obtain ⟨L, _, e, _⟩ := hd'
      exact ref L _ e r1
    | tup xs =>
      have hd' := hd
      unfold thR at hd'
      obtain ⟨L, _, e, _⟩ := hd'
      exact ref L _ e r1
    | dic xs =>
      have hd' := hd
      unfold thR at hd'
      obtain ⟨L, _, e, _⟩ := hd'
      exact ref L _ e r1
    | dct xs =>
      have hd' := hd
      unfold thR at hd'
      obtain ⟨L, _, e, _⟩ := hd'
      exact ref L _ e r1
section
variable {K : PySem.W.Frag}
def gReprT (t : Th) : Option Str := if t.enc.showable = true ∧ t.enc.depth ≤ 60 ∧ t.enc.shown.length ≤ 16777216 then some t.enc.shown else none
theorem v_reprT : VR K rReprT (aOne (ir rTh)) rS gReprT := fun G H v a b Q s ⟨x, h0, h1⟩ hg k => by
  subst h0
  obtain ⟨⟨h2, h3, h4⟩, rfl⟩ := of_ite hg
  exact ⟨x, a, rfl, thR.mono s h1, h2, h3, h4, k _ G H (.refl s) rfl⟩
end
structure OkT (n d : Nat) (t : Th) : Prop where
  sh : t.enc.showable = true
  ln : t.enc.shown.length ≤ n
  dp : t.enc.depth ≤ d
theorem OkT.mono {n d n' d' : Nat} {t : Th} (h : OkT n d t) (h1 : n ≤ n') (h2 : d ≤ d') : OkT n' d' t := ⟨h.sh, Nat.le_trans h.ln h1, Nat.le_trans h.dp h2⟩
theorem op_reprT {n d : Nat} {t : Th} {Q : Str → Prop} (h : OkT n d t) (hn : n ≤ 16777216) (hd : d ≤ 60) (q : Q t.enc.shown) : OpP (gReprT t) Q := by
  unfold gReprT
  rw [if_pos ⟨h.sh, Nat.le_trans h.dp hd, Nat.le_trans h.ln hn⟩]
  exact .mk q
theorem okT_int {i : Int} (h : i.natAbs < 10 ^ 80) : OkT 81 0 (.int i) := by
  refine ⟨?_, ?_, ?_⟩ <;> unfold Th.enc
  · simp [PyData.showable, log_small (by decide) h]
  · exact int_le (by decide) h
  · simp [PyData.depth]
theorem okT_non : OkT 4 0 .non := by
  refine ⟨?_, ?_, ?_⟩ <;> unfold Th.enc
  · simp [PyData.showable]
  · decide +kernel
  · simp [PyData.depth]
theorem okT_str {s : Str} {n : Nat} (h : (reprText s).length ≤ n) : OkT n 0 (.str s) := by
  refine ⟨?_, ?_, ?_⟩ <;> unfold Th.enc
  · simp [PyData.showable]
  · exact h
  · simp [PyData.depth]
theorem okT_all {m d : Nat} : ∀ {xs : List Th}, (∀ x ∈ xs, OkT m d x) → PyData.showableAll (encAll xs) = true ∧ piled (PyData.shownAll (encAll xs)) ≤ (m + 2) * xs.length ∧ PyData.depthAll (encAll xs) ≤ d
  | [], _ => by simp [encAll, PyData.showableAll, PyData.shownAll, PyData.depthAll, piled]
  | x :: xs, h => by
    obtain ⟨h1, h2, h3⟩ := okT_all (xs := xs) fun y hy => h y (List.mem_cons_of_mem _ hy)
    have hx := h x List.mem_cons_self
    have hl := hx.ln
    have hd := hx.dp
    unfold encAll
    refine ⟨?_, ?_, ?_⟩
    · simp [PyData.showableAll, h1, hx.sh]
    · show piled (PyData.shown x.enc :: PyData.shownAll (encAll xs)) ≤ _
      rw [piled_cons, List.length_cons, Nat.mul_add]
      omega
    · simp only [PyData.depthAll]
      omega
theorem okT_lst {m d k : Nat} {xs : List Th} (h : ∀ x ∈ xs, OkT m d x) (hl : xs.length ≤ k) : OkT ((m + 2) * k + 4) (d + 1) (.lst xs) := by
  obtain ⟨h1, h2, h3⟩ := okT_all h
  have h4 : (m + 2) * xs.length ≤ (m + 2) * k := Nat.mul_le_mul_left _ hl
  refine ⟨?_, ?_, ?_⟩ <;> unfold Th.enc
  · simpa [PyData.showable] using h1
  · have := listText_le (PyData.shownAll (encAll xs))
    show (listText (PyData.shownAll (encAll xs))).length ≤ _
    omega
  · simp only [PyData.depth]
    omega
theorem okT_tup {m d k : Nat} {xs : List Th} (h : ∀ x ∈ xs, OkT m d x) (hl : xs.length ≤ k) : OkT ((m + 2) * k + 4) (d + 1) (.tup xs) := by
  obtain ⟨h1, h2, h3⟩ := okT_all h
  have h4 : (m + 2) * xs.length ≤ (m + 2) * k := Nat.mul_le_mul_left _ hl
  refine ⟨?_, ?_, ?_⟩ <;> unfold Th.enc
  · simpa [PyData.showable] using h1
  · have := tupleText_le (PyData.shownAll (encAll xs))
    show (tupleText (PyData.shownAll (encAll xs))).length ≤ _
    omega
  · simp only [PyData.depth]
    omega
section
variable {ε α β : Type} {M : Mx} {R : ERep ε}
def toTh (f : α → Th) (a : α) : Option Th := some (f a)
abbrev CiT (r : Rep α) (f : α → Th) : Prop := CastR r rTh (toTh f)
theorem ci_I : CiT rI Th.int := c_int
theorem ci_S : CiT rS Th.str := c_str
theorem ci_N : CiT rN (fun _ => Th.non) := c_non
theorem ci_id : CiT rTh (fun t => t) := fun K G v a b h e => by cases e; exact h
theorem ci_L {r : Rep α} {f : α → Th} (c : CiT r f) : CiT (rz (oL r)) (fun xs => Th.lst (xs.map f)) := fun K G v a b h e => by
  cases e
  exact c_lst K G v _ _ (c_L (f := f) (fun K G v a b h e => c K G v a b h e) K G v a _ h rfl) rfl
theorem ci_T {r : Rep α} {f : α → Th} (c : CiT r f) : CiT (rz (oT r)) (fun xs => Th.tup (xs.map f)) := fun K G v a b h e => by
  cases e
  exact c_tup K G v _ _ (c_T (f := f) (fun K G v a b h e => c K G v a b h e) K G v a _ h rfl) rfl
theorem ci_T2 {r : Rep α} {r' : Rep β} {f : α → Th} {g : β → Th} (c : CiT r f) (c' : CiT r' g) : CiT (rz (oT2 r r')) (fun p => Th.tup [f p.1, g p.2]) := fun K G v a b h e => by
  cases e
  obtain ⟨L, ho, h1, h2, x, y, rfl, h3, h4⟩ := h
  refine c_tup K G v [f a.1, g a.2] _ ⟨L, _, h1, h2, [x, y], rfl, .cons (c _ _ _ _ _ h3 rfl) (.cons (c' _ _ _ _ _ h4 rfl) .nil)⟩ rfl
theorem ci_O {r : Rep α} {f : α → Th} (c : CiT r f) : CiT (rO r) (fun o => match o with | none => Th.non | some a => f a) := fun K G v a b h e => by
  cases e
  cases a with
  | none => exact c_non K G v () _ h rfl
  | some a => exact c K G v a _ h.2 rfl
def asLs (f : Th → Option β) (t : Th) : Option (List β) := match t with | .lst xs => allM f xs | _ => none
def asTs (f : Th → Option β) (t : Th) : Option (List β) := match t with | .tup xs => allM f xs | _ => none
theorem c_asLs {r : Rep β} {f : Th → Option β} (c : CastR rTh r f) : CastR rTh (rz (oL r)) (asLs f) := fun K G v a b h e => by
  cases a with
  | lst xs => exact c_pL c K G v xs b (c_asL K G v (.lst xs) xs h rfl) e
  | _ => cases e
theorem c_asTs {r : Rep β} {f : Th → Option β} (c : CastR rTh r f) : CastR rTh (rz (oT r)) (asTs f) := fun K G v a b h e => by
  cases a with
  | tup xs => exact c_pT c K G v xs b (c_asT K G v (.tup xs) xs h rfl) e
  | _ => cases e
def asT2 (f : Th → Option α) (g : Th → Option β) (t : Th) : Option (α × β) := match t with
  | .tup [x, y] => (f x).bind fun a => (g y).map fun b => (a, b)
  | _ => none
theorem c_asT2 {r : Rep α} {r' : Rep β} {f : Th → Option α} {g : Th → Option β} (c : CastR rTh r f) (c' : CastR rTh r' g) : CastR rTh (rz (oT2 r r')) (asT2 f g) := fun K G v a b h e => by
  match a, h, e with
  | .tup [x, y], h, e =>
    obtain ⟨L, ho, h1, h2, vs, rfl, h3⟩ := c_asT K G v (.tup [x, y]) [x, y] h rfl
    cases h3 with
    | cons p h3 =>
      cases h3 with
      | cons q h3 =>
        cases h3
        have e : ((f x).bind fun a => (g y).map fun b => (a, b)) = some b := e
        cases hx : f x with
        | none => rw [hx] at e; cases e
        | some a' =>
          cases hy : g y with
          | none => rw [hx, hy] at e; cases e
          | some b' =>
            rw [hx, hy] at e
            cases e
            exact ⟨L, _, h1, h2, _, _, rfl, c _ _ _ _ _ p hx, c' _ _ _ _ _ q hy⟩
theorem allM_map {f : β → Option α} {g : α → β} (h : ∀ x, f (g x) = some x) : ∀ xs : List α, allM f (xs.map g) = some xs
  | [] => rfl
  | x :: xs => by
    rw [List.map_cons]
    unfold allM
    rw [h, allM_map h xs]
    rfl
def gDisp1 (k : Int) (b : β) : Option (List (Int × β)) := some [(k, b)]
end
theorem endGS {P : Program} {w : World} {K : PySem.W.Frag} {mg mb : Str → Option Value} {k : Nat} {fa a : Addr} {fd : FuncData} {x : Str} {sp : Sp} {s₁ : Shared} {vs : List Value} {H : Hp}
    (KX : K.In s₁.heap) (hns : s₁.heap.Ns mainGlobals mg) (hb : s₁.heap.Ns builtinsNs mb) (hbb : ∀ x : Str, x ≠ "__name__" → mb x = bootBuiltins x) (hlim : s₁.heap.NoLimit) (hg : s₁.gens = #[]) (hsm : SMod s₁.heap)
    (ha : s₁.heap.get? a = some { cls := .type "list", data := .seq vs.toArray }) (hr : Room k callerA)
    (F : ∀ base : Heap, K.In base → base.Ns mainGlobals mg → SMod base → FnG P w K mg base k fa fd [x] sp) (hbind : ∀ (s : Shared) (u : Value), BindsTo s fd ⟨[u], []⟩ [(x, u)])
    (hsp : sp [.ref a] H (fun v _ => v = .bl true) fun _ _ _ => False) (hok : HOk P w H s₁.heap)
    (hH : ∀ b u, H b = some u → b = a ∧ K.lookup a = none ∧ ∃ o v, u = .frz o v) :
    codeAny (model P w) callerA (.call (.ref fa) ⟨[.ref a], []⟩) (fun r s' => r = .ok (.ret (.bool true)) ∧ OldK s₁.heap s'.heap ∧ s'.os = s₁.os ∧ AllBare s'.gens) s₁ := by
  have free : ∀ {b : Addr} {o : Obj}, s₁.heap.get? b = some o → (∀ xs n, o.data ≠ .seq xs n) → H b = none := fun {b o} e d => by
    cases q : H b with
    | none => rfl
    | some u =>
      obtain ⟨rfl, _⟩ := hH b u q
      rw [ha] at e
      cases e
      exact absurd rfl (d _ _)
  have ns : ∀ {b : Addr} {m : Str → Option Value}, s₁.heap.Ns b m → (hidT s₁.heap H).Ns b m := fun {b m} z => by
    obtain ⟨o, es, ep, e, d, r⟩ := z
    exact ⟨o, es, ep, hidT_get e (free e fun _ _ z => by rw [d] at z; cases z), d, r⟩
  have kin : K.In (hidT s₁.heap H) := fun b o e => hidT_get (KX b o e) (by
    cases q : H b with
    | none => rfl
    | some u =>
      obtain ⟨rfl, h2, _⟩ := hH b u q
      rw [h2] at e
      cases e)
  have lim : (hidT s₁.heap H).NoLimit := by
    obtain ⟨mc, h1, h2⟩ := hlim
    exact ⟨mc, ns h1, h2⟩
  have sm : SMod (hidT s₁.heap H) := by
    obtain ⟨mm, h1⟩ := hsm
    exact ⟨mm, ns h1⟩
  have e0 : Env0 P w K mg (hidT s₁.heap H) callerA [] s₁ H := ⟨rfl, ⟨kin, ns hns, ⟨mb, ns hb, hbb⟩, lim⟩, fun b o e => of_hidT e, Nat.le_of_eq (hidT_size _ _), trivial, fun b z => (List.not_mem_nil (show b ∈ ([] : List Addr) from z)).elim, hok, .of_eq hg⟩
  refine codeAny_mono ((F _ kin (ns hns) sm).run callerA [] s₁ H ⟨[.ref a], []⟩ [.ref a] [.ref a] _ _ rfl hr e0 (hbind s₁ (.ref a)) (.cons rfl .nil) hsp) fun r s' h => ?_
  match r, h with
  | .error _, z => exact False.elim z
  | .ok .next, z => exact False.elim z
  | .ok .brk, z => exact False.elim z
  | .ok .cont, z => exact False.elim z
  | .ok (.ret u), ⟨v, H', os, bare, un, hok', rv, q⟩ =>
    obtain rfl : v = .bl true := q
    obtain rfl : u = Value.bool true := rv
    refine ⟨rfl, OldK.of_keep fun b o e => ?_, os, bare⟩
    cases q : H b with
    | none => exact un.keep b o e q (fun z => (List.not_mem_nil (show b ∈ ([] : List Addr) from z)).elim) (fun z => (List.not_mem_nil z).elim)
    | some u =>
      obtain ⟨_, _, ob, u', rfl⟩ := hH b u q
      have e1 := (hok b _ q).1
      have e2 := (hok' b _ (un.frzs b ob u' q)).1
      rw [e] at e1
      cases e1
      exact e2
theorem walkGS {l : PySem.W.OpenLaw} {n k : Nat} {q : Program} {loose : List Str} {XP : (Str → Option Value) → Heap → Prop} {YP : World → Heap → Prop} {d : DefRec} {K : Params → PySem.W.Frag} {sp : World → Sp} {x : Str}
    (hn : l.most = some n) (hn2 : n ≤ sizeLine) (hdf : d.params.defaults = []) (hr : Room k callerA) (hi : importsNone q = true)
    (hY : ∀ (w : World) (h : Heap), YP w h → (K w.params).In h)
    (F : ∀ (w : World) (mg : Str → Option Value) (fa : Addr) (h : Heap), (K w.params).In h → h.Ns mainGlobals mg → mg d.name = some (.ref fa) →
      ∃ fd : FuncData, (∀ (s : Shared) (u : Value), BindsTo s fd ⟨[u], []⟩ [(x, u)]) ∧
        ∀ base : Heap, (K w.params).In base → base.Ns mainGlobals mg → SMod base → FnG l.prog w (K w.params) mg base k fa fd [x] (sp w))
    (hsp : ∀ (w : World) (H : Hp) (a : Addr) (ns : List Int), ns.length ≤ n → SqL (K w.params) H a (ns.map V.int) → (∀ b u, H b = some u → b = a ∧ ∃ o v, u = .frz o v) → sp w [.ref a] H (fun v _ => v = .bl true) fun _ _ _ => False) :
    PySem.W.WalkO q loose XP YP l.row.toRowW d [] (fun f vs => PySem.call f vs) := by
  refine Att.attach_call hn hdf fun w s₀ s₁ mg mb fa o pm cd doc a vs ns G Y ho hd hcd hmg hobj hints hlen hg => ?_
  have KX := hY w _ Y
  obtain ⟨fd, hb, hF⟩ := F w mg fa _ KX G.T.g hmg
  have hl : ns.length ≤ sizeLine := Nat.le_trans hlen hn2
  have rv := vals_ints hints
  have sm : SMod s₁.heap := let ⟨mm, h, _⟩ := (G.T.seer hi).mods; ⟨mm, h⟩
  cases hk : (K w.params).lookup a with
  | some o =>
    have e := KX a o hk
    rw [hobj] at e
    cases e
    refine endGS (H := fun _ => none) KX G.T.g G.T.b G.T.builtins G.T.nolimit hg sm hobj hr hF hb (hsp w _ a ns hlen ?_ fun b u z => nomatch z) (fun b u z => nomatch z) fun b u z => nomatch z
    exact .inr ⟨_, vs.toArray, _, hk, rfl, rfl, rfl, by rw [List.size_toArray, hints.length]; exact hl, by simpa using rv⟩
  | none =>
    have one : ∀ b u, (fun b => if b = a then some (HO.frz { cls := .type "list", data := .seq vs.toArray } (.lst (ns.map V.int))) else none) b = some u → b = a ∧ u = HO.frz { cls := .type "list", data := .seq vs.toArray } (.lst (ns.map V.int)) := fun b u z => by
      by_cases hb : b = a
      · exact ⟨hb, (Option.some.inj ((if_pos hb).symm.trans z)).symm⟩
      · exact nomatch ((if_neg hb).symm.trans z)
    refine endGS (H := fun b => if b = a then some (.frz { cls := .type "list", data := .seq vs.toArray } (.lst (ns.map V.int))) else none) KX G.T.g G.T.b G.T.builtins G.T.nolimit hg sm hobj hr hF hb
      (hsp w _ a ns hlen (.inl (.inr ⟨_, if_pos rfl⟩)) fun b u z => ⟨(one b u z).1, _, _, (one b u z).2⟩) (fun b u z => ?_) fun b u z => ⟨(one b u z).1, hk, _, _, (one b u z).2⟩
    obtain ⟨rfl, rfl⟩ := one b u z
    exact ⟨hobj, by rw [List.length_map]; exact hl, vs, _, rv, hobj⟩
def isInt : Th → Bool | .int _ => true | .bl _ => true | _ => false
def isBl : Th → Bool | .bl _ => true | _ => false
def isLst : Th → Bool | .lst _ => true | _ => false
def isTup : Th → Bool | .tup _ => true | _ => false
def isStr : Th → Bool | .str _ => true | _ => false
def isDic : Th → Bool | .dic _ => true | .dct _ => true | _ => false
theorem ist_int (t : Th) : isT "int" t = isInt t := by
  cases t <;> (simp only [isT, kindOf, isInt]; decide +kernel)
theorem ist_bool (t : Th) : isT "bool" t = isBl t := by
  cases t <;> (simp only [isT, kindOf, isBl]; decide +kernel)
theorem ist_list (t : Th) : isT "list" t = isLst t := by
  cases t <;> (simp only [isT, kindOf, isLst]; decide +kernel)
theorem ist_tuple (t : Th) : isT "tuple" t = isTup t := by
  cases t <;> (simp only [isT, kindOf, isTup]; decide +kernel)
theorem ist_str (t : Th) : isT "str" t = isStr t := by
  cases t <;> (simp only [isT, kindOf, isStr]; decide +kernel)
theorem ist_dict (t : Th) : isT "dict" t = isDic t := by
  cases t <;> (simp only [isT, kindOf, isDic]; decide +kernel)
theorem gIsTh_int {t : Th} : gIsTh "int" (t, ()) = some (isInt t) := by unfold gIsTh; rw [ist_int]
theorem gIsTh_bool {t : Th} : gIsTh "bool" (t, ()) = some (isBl t) := by unfold gIsTh; rw [ist_bool]
theorem gIsTh_list {t : Th} : gIsTh "list" (t, ()) = some (isLst t) := by unfold gIsTh; rw [ist_list]
theorem gIsTh_tuple {t : Th} : gIsTh "tuple" (t, ()) = some (isTup t) := by unfold gIsTh; rw [ist_tuple]
theorem gIsTh_str {t : Th} : gIsTh "str" (t, ()) = some (isStr t) := by unfold gIsTh; rw [ist_str]
theorem gIsTh_dict {t : Th} : gIsTh "dict" (t, ()) = some (isDic t) := by unfold gIsTh; rw [ist_dict]
theorem okT_ints {xs : List Int} (h : ∀ x ∈ xs, x.natAbs < 10 ^ 80) : ∀ t ∈ xs.map Th.int, OkT 81 0 t := fun t ht => by
  obtain ⟨x, hx, rfl⟩ := List.mem_map.mp ht
  exact okT_int (h x hx)
section
variable {K : PySem.W.Frag} {α β ε : Type} {M : Mx} {R : ERep ε}
def gRepT (xs : List α) (k : Int) : Option (List α) := if xs ≠ [] ∧ 2 ≤ k ∧ k ≤ 1000 ∧ xs.length ≤ 1000 then some (List.replicate k.toNat xs).flatten else none
def gDictP (rows : List (Int × β)) : Option (List (Int × β)) := some (dputs [] rows)
def pairTh (f : α → Th) (g : β → Th) (p : α × β) : Option (List Th) := some [f p.1, g p.2]
end
section
variable {X : Cx} {K : PySem.W.Frag}
def isTB (b : Bool) (t : Th) : Bool := match t with | .bl c => decide (c = b) | _ => false
def gIsTB (t : Th) (b : Bool) : Option Bool := some (isTB b t)
def gNotTB (t : Th) (b : Bool) : Option Bool := some (!isTB b t)
end
section
variable {K : PySem.W.Frag} {α β γ ε ρ : Type} {w : World} {P : Program} {M : Mx} {R : ERep ε}
def gLenSI (ns : List Int) : Option Int := some (sset ns).length
def gLenST (ns : List (List Int)) : Option Int := some (ssetF ns).length
end
section
variable {X : Cx} {K : PySem.W.Frag}
def gMulW (i j : Int) : Option Int := if i.natAbs.log2 + j.natAbs.log2 < 1000000 then some (i * j) else none
end
section
variable {ε α β : Type} {M : Mx} {R : ERep ε}
def gDispT (k : List Int) (b : β) : Option (List (List Int × β)) := some [(k, b)]
end
theorem x_callP {ε α β : Type} {P : Program} {w : World} {K : PySem.W.Frag} {mg : Str → Option Value} {base : Heap} {k i : Nat} {R : ERep ε} {l : Ln ε (α → Rs Unit β)} {t : TA} {ra : IR (List V) α} {r : Rep β} {m : ε → Rs ε α} (at' : FrAt R i (rFn P w mg base k ra (fz r)) l) (h : EX ⟨K, E0, cx0⟩ R t (is ra) m) :
    EX ⟨K, E0, cx0⟩ R (tCallF P w K mg base k i t) (fz r) (mCallX (mVar l) m) := fun F G H σ e iv hR Q p => by
  unfold mCallX mVar at p
  cases hl : l.get e with
  | none => rw [hl] at p; exact p.elim
  | some g =>
    rw [hl] at p
    obtain ⟨v, h1, f, rfl, hh⟩ := at'.rd hR hl
    have hc := x_call (M := ⟨K, E0, cx0⟩) h F G H σ e iv hR Q p
    refine ⟨f, _, h1, hh, ?_⟩
    unfold tCall at hc
    simp only [List.append_nil] at hc
    exact hc
section
variable {ε α β : Type} {M : Mx} {R : ERep ε} {K : PySem.W.Frag}
def gPc (p : List Int × Int × Int) (_ : Unit) : Option (List Int) := some p.1
def gPa (p : List Int × Int × Int) (_ : Unit) : Option Int := some p.2.1
def gPl (p : List Int × Int × Int) (_ : Unit) : Option Int := some p.2.2
def gSetPa (p : List Int × Int × Int) (_ : Unit) (x : Int) : Option (List Int × Int × Int) := some (p.1, x, p.2.2)
def gSetPl (p : List Int × Int × Int) (_ : Unit) (x : Int) : Option (List Int × Int × Int) := some (p.1, p.2.1, x)
end
def repS (a : Str) (n : Nat) : Str := ⟨(List.replicate n a.cps).foldl (· ++ ·) #[]⟩
theorem repS_one (a : Str) : repS a 1 = a := by
  unfold repS
  simp
def rMulS : R2 := fun x y H Q => ∃ (a : Str) (n : Int), x = .str a ∧ y = .int n ∧ 1 ≤ n ∧ n ≤ 1000 ∧ 1 ≤ a.length ∧ a.length ≤ 1000 ∧ Q (.str (repS a n.toNat)) H
theorem repS_len (a : Str) : ∀ n, (repS a n).length = n * a.length := by
  have h : ∀ (n : Nat) (acc : Array Nat), ((List.replicate n a.cps).foldl (· ++ ·) acc).size = acc.size + n * a.cps.size := by
    intro n
    induction n with
    | zero => intro acc; simp
    | succ n ih =>
      intro acc
      rw [List.replicate_succ, List.foldl_cons, ih, Array.size_append, Nat.succ_mul]
      omega
  intro n
  have := h n #[]
  simp at this
  exact this
theorem o_muls {X : Cx} : OpR X (binaryOp .Mult) rMulS := by
  intro pins s σ H x y v u Q I rx ry h
  obtain ⟨a, n, rfl, rfl, n1, n2, a1, a2, q⟩ := h
  obtain ⟨t, rfl⟩ := rx
  obtain ⟨tt, rfl⟩ := ry
  have hm : a.length * n.toNat ≤ 1000 * 1000 := Nat.mul_le_mul a2 (by omega)
  refine P.mul_str ?_ (fun _ _ => ?_) (fun _ _ => ?_) ?_
  · rw [decide_eq_false (by omega), decide_eq_false (by omega)]
    rfl
  · have : (1000 : Int) ≤ (2 ^ 63 - 1) / n := (Int.le_ediv_iff_mul_le (by omega)).mpr (by omega)
    omega
  · unfold Builtin.Str.tooLong
    exact decide_eq_false (by rw [sizeLine_eq]; omega)
  · rw [if_neg (by omega)]
    by_cases e : n = 1
    · subst e
      rw [if_pos (by rfl)]
      exact ⟨.str a, H, I, ⟨t, rfl⟩, by rw [← repS_one a]; exact q⟩
    · rw [if_neg (by rw [Bool.or_eq_true, beq_iff_eq, beq_iff_eq]; omega)]
      have hl := repS_len a n.toNat
      refine ⟨by show (repS a n.toNat).length ≤ sizeLine; rw [hl, sizeLine_eq, Nat.mul_comm]; omega, .str (repS a n.toNat), H, I.tok _, ⟨_, rfl⟩, q⟩
def gAddS (a b : Str) : Option Str := if a.length + b.length ≤ 1000000 then some (a ++ b) else none
theorem v_addS {K : PySem.W.Frag} : VR2 K rAddS (ir rS) (ir rS) rS gAddS := fun G H v w a b c Q s h1 h2 hg k => by
  obtain ⟨hz, rfl⟩ := of_ite hg
  exact ⟨a, b, h1, h2, by rw [sizeLine_eq]; omega, k _ G H (.refl s) rfl⟩
def gMulS (a : Str) (n : Int) : Option Str := if (1 ≤ n ∧ n ≤ 1000) ∧ 1 ≤ a.length ∧ a.length ≤ 1000 then some (repS a n.toNat) else none
theorem v_mulS {K : PySem.W.Frag} : VR2 K rMulS (ir rS) (ir rI) rS gMulS := fun G H v w a b c Q s h1 h2 hg k => by
  obtain ⟨hz, rfl⟩ := of_ite hg
  exact ⟨a, b, h1, h2, hz.1.1, hz.1.2, hz.2.1, hz.2.2, k _ G H (.refl s) rfl⟩
section
variable {α β ε ρ : Type} {M : Mx} {R : ERep ε} {rr : RS V ρ} {F : Frm} {G G1 H : Hp} {σ : Sg}
def PostW (M : Mx) (R : ERep ε) (rr : RS V ρ) (F : Frm) (D : Ends) : So ε ρ → Prop
  | .nx e' => ∀ σ' G' H', IV F G' H' → R.rel M.K F G' H' σ' e' → D.nx σ' H'
  | .bk e' => ∀ σ' G' H', IV F G' H' → R.rel M.K F G' H' σ' e' → D.bk σ' H'
  | .ct e' => ∀ σ' G' H', IV F G' H' → R.rel M.K F G' H' σ' e' → D.ct σ' H'
  | .rt a e' => ∀ v σ' G' H' H1, IV F G' H' → rr.rel M.K F G' H' v a H1 → R.rel M.K F G' H1 σ' e' → D.rt v H'
  | .ex c e' => ∀ cls d σ' G' H', IV F G' H' → R.rel M.K F G' H' σ' e' → xr M G' c cls d → M.E cls d H'
  | .bad => False
theorem PostW.s {D : Ends} {x : So ε ρ} (h : PostW M R rr F D x) : PostS M R rr F G D x := by
  cases x with
  | nx e => exact fun σ' G' H' i _ => h σ' G' H' i
  | bk e => exact fun σ' G' H' i _ => h σ' G' H' i
  | ct e => exact fun σ' G' H' i _ => h σ' G' H' i
  | rt a e => exact fun v σ' G' H' H1 i _ => h v σ' G' H' H1 i
  | ex c e => exact fun cls d σ' G' H' i _ => h cls d σ' G' H' i
  | bad => exact h
def SXW (M : Mx) (R : ERep ε) (rr : RS V ρ) (t : TS) (m : ε → So ε ρ) : Prop := ∀ F G H σ e, IV F G H → R.rel M.K F G H σ e → ∀ D, PostW M R rr F D (m e) → t D σ H
theorem SX.w {t : TS} {m : ε → So ε ρ} (h : SX M R rr t m) : SXW M R rr t m := fun F G H σ e i hR D p => h F G H σ e i hR D p.s
theorem wx_seq {t u : TS} {m n : ε → So ε ρ} (h : SXW M R rr t m) (k : SXW M R rr u n) : SXW M R rr (tSeq t u) (mSeq m n) := fun F G H σ e i hR D p => by
  refine h F G H σ e i hR _ ?_
  unfold mSeq at p
  revert p
  cases m e with
  | nx e1 => exact fun p σ' G' H' i1 R1 => k F G' H' σ' e1 i1 R1 D p
  | bk e1 => exact id
  | ct e1 => exact id
  | rt a e1 => exact id
  | ex c e1 => exact id
  | bad => exact id
theorem wx_cut {t u : TS} {m n : ε → So ε ρ} (h : SXW M R rr t m) (k : SXW M R rr u n) : SXW M R rr (tCut t u) (mSeq m n) := fun F G H σ e i hR D p => by
  refine ⟨fun σ' H' => u D σ' H', ?_, fun _ _ h => h⟩
  exact wx_seq h k F G H σ e i hR D p
theorem wx_cutC {t u : TS} {m n : ε → So ε ρ} (h : SXW M R rr t m) (k : SXW M R rr u n) : SXW M R rr (tCut t u) (mCut m n) := wx_cut h k
theorem wx_seqC {t u : TS} {m n : ε → So ε ρ} (h : SXW M R rr t m) (k : SXW M R rr u n) : SXW M R rr (tSeq t u) (mCut m n) := wx_seq h k
theorem Rs.so_w {D : Ends} {x : Rs ε α} {f : α → ε → So ε ρ} {ν : Type} {rs : RS ν α} {Q : ν → Hp → Prop} (p : PostW M R rr F D (x.so f)) (k : ∀ v a e1 G1 H1 H1', IV F G1 H1 → rs.rel M.K F G1 H1 v a H1' → R.rel M.K F G1 H1' σ e1 → PostW M R rr F D (f a e1) → Q v H1) : Post M R F G σ rs Q x := by
  cases x with
  | ok a e => exact fun v G' H' H1 i _ hr hR => k v a e G' H' H1 i hr hR p
  | ex c e => exact fun cls d G' H' i _ hR hx => p cls d σ G' H' i hR hx
  | bad => exact p
theorem wx_if {c : TT} {t u : TS} {mc : ε → Rs ε Bool} {m n : ε → So ε ρ} (hc : EX M R c (fz bR) mc) (h : SXW M R rr t m) (k : SXW M R rr u n) : SXW M R rr (tIfS c t u) (mIfS mc m n) := fun F G H σ e i hR D p =>
  hc F G H σ e i hR _ (Rs.so_w p fun v a e1 G1 H1 H1' i1 hr R1 p1 => by
    have e : v = a := hr.1
    subst e
    rw [hr.2] at R1
    cases v with
    | true => exact h F G1 H1 σ e1 i1 R1 D p1
    | false => exact k F G1 H1 σ e1 i1 R1 D p1)
end
def Zf (F : Frm) : Prop := (∀ b u, F.H0 b = some u → ∃ o v, u = .frz o v) ∧ ∀ b u, F.G0 b = some u → ∃ o v, u = .frz o v
def eZ {ε : Type} (R : ERep ε) : ERep ε := ⟨fun K F G H σ e => Zf F ∧ R.rel K F G H σ e, fun g h n ⟨t, r⟩ => ⟨t, R.mono g h n r⟩, fun ⟨t, r⟩ => ⟨t, R.lock r⟩, fun ⟨t, r⟩ => ⟨t, R.unlock r⟩⟩
section
variable {α β ε ρ : Type} {R : ERep ε} {n : Nat} {r : Rep α} {q : ORep α} {own : Frm → Addr → Prop} {l : Ln ε α}
theorem LkR.z (h : LkR R) : LkR (eZ R) := ⟨fun ⟨t, b⟩ => ⟨t, h.lk b⟩, fun ⟨t, b⟩ => ⟨t, h.ul b⟩⟩
def NonL (o : HO) : Prop := ∀ vs, o ≠ .lst vs
def Kept (G G' : Hp) : Prop := ∀ b o, G b = some o → NonL o → G' b = some o
def StR {ν : Type} (r : GR ν α) : Prop := ∀ {K G G' v a}, Kept G G' → r.rel K G v a → r.rel K G' v a
theorem st_S : StR rS := fun _ h => h
/-- the names behind such a change -/
structure Stb (R : ERep ε) (k : ε → ε) : Prop where
  st : ∀ {K F G G' H H' σ e}, Kept G G' → (∀ b, G' b ≠ none → G b ≠ none) → (∀ b o, G b = none → H b = some o → H' b = some o) → R.rel K F G H σ e → R.rel K F G' H' σ (k e)
theorem Stb.nil : Stb eNil id := ⟨fun _ _ _ h => h⟩
theorem Stb.fr {k : ε → ε} (hr : StR r) (h : Stb R k) : Stb (eFr r R) (fun e => (e.1, k e.2)) := ⟨fun a b c ⟨o, σ', h1, h2, h3⟩ => ⟨o, σ', h1, fun x hx => let ⟨v, h4, h5⟩ := h2 x hx; ⟨v, h4, hr a h5⟩, h.st a b c h3⟩⟩
variable {γ : Type}
def oTh (f : α → Th) : Option α → Th
  | none => .non
  | some a => f a
theorem ci_Oo {f : α → Th} (h : CiT r f) : CiT (rO r) (oTh f) := fun K G v a b hr e => by
  cases a with
  | none => exact ci_O (f := f) h K G v none b hr e
  | some a => exact ci_O (f := f) h K G v (some a) b hr e
end
variable {ε : Type} {R : ERep ε}
section
variable {X : Cx}
def rTupZ (K : PySem.W.Frag) : List V → Hp → VK → Prop := fun xs H Q => ∃ p ys, xs = [.ref p] ∧ SqL K H p ys ∧ ∀ (l : Addr) (o : Obj), H l = none → o.dict = none → Q (.ref l) (upd H l (.frz o (.tup ys)))
theorem call_tupZ : CallR X (.type "tuple") (rTupZ X.K) := by
  intro pins s σ H xs us Q I r h
  obtain ⟨p, ys, rfl, hq, q⟩ := h
  obtain ⟨u, rfl, rx⟩ := vals1 r
  cases rx
  obtain ⟨its, r', pl, hz⟩ := I.list hq
  have hlen := r'.length
  have hsl := sizeLine_eq
  refine call_tuple_list pl.isList (fun h' kp => ?_) (by simp only [List.size_toArray] <;> omega)
  have I1 : Inv X pins σ H { s with heap := h' } := I.kept (t' := s.toks) kp
  have I2 : Inv X pins σ (upd H h'.objs.size (.frz { cls := .type "tuple", data := .seq its.toArray } (.tup ys))) { s with heap := h'.push { cls := .type "tuple", data := .seq its.toArray } } :=
    I1.laid (t' := s.toks) (fun b o e => Heap.get?_push_of_some _ e) (Nat.le_refl _) (show ObjOk X.prog X.w _ _ _ (.frz _ (.tup ys)) from ⟨Heap.get?_push_size _ rfl, hz, its, r', IsTup.new _ _⟩)
  exact ⟨.ref h'.objs.size, _, I2, rfl, q _ _ (I1.hok.fresh (Nat.le_refl _)) rfl⟩
/-- t.index(x): the first place of an equal one -/
def rIndexT (K : PySem.W.Frag) : V → List V → Hp → VK → Prop := fun x xs H Q => ∃ (a : Addr) (y : V) (d : PyData) (ds : List PyData) (j : Nat) (z : PyData), x = V.ref a ∧ xs = [y] ∧ Dp K H (V.ref a) (.tuple ds) ∧ Dp K H y d ∧
  SeqAt.shaped (.tuple ds) = true ∧ SeqAt.shaped d = true ∧ ds[j]? = some z ∧ PyData.eqv z d = true ∧ (∀ (m : Nat) (z' : PyData), m < j → ds[m]? = some z' → PyData.eqv z' d = false) ∧ Q (.int (j : Nat)) H
theorem mt_indexT (hu : X.A.units + 65 < cLine) : MtR X "tuple.index" (rIndexT X.K) := by
  intro pins s σ H x xs v us Q I rx rxs h
  obtain ⟨a, y, d, ds, j, z, rfl, rfl, hl, hy, sl, sd, hz, hzj, hno, q⟩ := h
  cases rx
  cases rxs with
  | cons ry rt =>
    rename_i uy ut
    cases rt
    obtain ⟨bs, r1⟩ := Dp.reads I d y uy hy ry
    have hxs : PyData.canLayAll0 ds = true := SeqAt.canLay_of_shaped sl
    have hroom : X.A.units + 1 + min (PyData.depthAll ds) d.depth < cLine := room_in_shaped sd hu
    cases hl with
    | tup hs ha =>
      obtain ⟨its, rv, ⟨⟨cls, dd, data, sls⟩, ho, hc, n, hdt⟩, hlen⟩ := I.tuple hs
      simp only at hc hdt
      subst hc hdt
      obtain ⟨as, h4⟩ := Dp.readsAll I ds _ its ha rv
      have hn : its.length = ds.length := SeqAt.ReadsAll.length ds its as h4
      have hmap : its.map (SeqAt.readOf s.heap) = ds := SeqAt.readsAll_map ds its as hxs h4
      obtain ⟨hjd, _⟩ := List.getElem?_eq_some_iff.mp hz
      have hjl : j < its.length := by omega
      have hj : j < its.toArray.size := by simpa using hjl
      have at_ : ∀ (m : Nat) (hm : m < its.toArray.size) (z' : PyData), ds[m]? = some z' → SeqAt.readOf s.heap its.toArray[m] = z' := by
        intro m hm z' hz'
        have hml : m < its.length := by simpa using hm
        rw [← hmap, List.getElem?_map, List.getElem?_eq_getElem hml] at hz'
        have e1 : SeqAt.readOf s.heap its[m] = z' := Option.some.inj (show some (SeqAt.readOf s.heap its[m]) = some z' from hz')
        simpa using e1
      have hall := SeqAt.items_eqAt (vs := its.toArray) (A := X.A) (show ReadsAll s.heap its.toArray.toList ds as from h4) r1 hxs (SeqAt.canLay_of_shaped sd) hroom
      refine call_meets PySem.F.slot_tuple_index ⟨_, ho, rfl⟩ PySem.F.entry_tuple_index (PySem.F.args_tuple_index_2 _ _)
        (SeqAt.tuple_index2_found a its.toArray n dd sls uy (fun m => if hm : m < its.toArray.size then PyData.eqv (SeqAt.readOf s.heap its.toArray[m]) d else false) j hj (Nat.zero_le _) hj ?_ ?_) ⟨ho, ?_, ?_⟩
      · show (if hm : j < its.toArray.size then PyData.eqv (SeqAt.readOf s.heap its.toArray[j]) d else false) = true
        rw [dif_pos hj, at_ j hj z hz]
        exact hzj
      · intro m hm _ hmj
        have hmd : m < ds.length := by
          have : m < its.length := by simpa using hm
          omega
        have hz' : ds[m]? = some ds[m] := List.getElem?_eq_getElem hmd
        show (if hm : m < its.toArray.size then PyData.eqv (SeqAt.readOf s.heap its.toArray[m]) d else false) = false
        rw [dif_pos hm, at_ m hm _ hz']
        exact hno m _ hmj hz'
      · intro m hm
        have := hall its.toArray[m] (Array.getElem_mem hm)
        rw [dif_pos hm]
        exact this
      · exact ⟨.int (j : Nat), H, I.tok _, ⟨_, rfl⟩, q⟩
def tTIdx (K : PySem.W.Frag) (to : TE) (t : TA) : TE := fun σ H Q => to σ H fun x H1 => (∃ (a : Addr) (o : Obj) (ys : List V), x = .ref a ∧ H1 a = some (.frz o (.tup ys)) ∧ o.dict = none) ∧ t σ H1 fun xs H2 => rIndexT K x xs H2 Q
variable {o e : Expr} {es : List Expr} {to : TE} {t : TA} {apos cpos : Pos}
theorem pe_tidx (hu : X.A.units + 65 < cLine) (ho : PE X o to) (ha : PA X (e :: es) t)
    (hbase : attributeBase o "index" X.env (eval o X.env) = eval o X.env := by rfl)
    (hfew : ((backTo cpos (starEach (e :: es) X.env)).all (fun x => !x.1) && (backToKw cpos (keywordEach [] X.env)).all (fun x => x.1.isSome)
      && decide ((e :: es).length + ([] : List Keyword).length + (if ([] : List Keyword).isEmpty then 0 else 1) < 30)) = true := by rfl)
    (hline : (apos.endLine == cpos.line) = true := by rfl) (hs : starEach (e :: es) X.env = (false, eval e X.env) :: starEach es X.env := by rfl) (hplain : (backTo cpos (starEach es X.env)).any (·.1) = false := by rfl) :
    PE X (.Call (.Attribute o "index" apos) (e :: es) [] cpos) (tTIdx X.K to t) := by
  refine ⟨fun pins s σ H Q I h => ?_⟩
  refine wpAny_Call_method_late hbase hfew hline rfl (thn (ho.run pins s σ H _ I h) fun v s1 ⟨x, H1, I1, r1, ⟨a, ob, ys, e0, hob, hdn⟩, q1⟩ => ?_)
  subst e0
  cases r1
  obtain ⟨e1, hz, its, r', o', e2, hc, _⟩ := I1.hok a _ hob
  rw [e1] at e2
  cases e2
  refine ⟨"tuple", "tuple.index", PySem.F.plainAttrs_tuple, PySem.F.slot_tuple_index, PySem.F.type_tuple_index, ⟨_, e1, hc⟩, fun b eb => ?_, ?_⟩
  · cases eb
    exact ⟨_, e1, hdn⟩
  have hA := ha.run cpos pins s1 σ H1 _ I1 q1
  rw [hs] at hA ⊢
  refine Calls.callWith_builtin (by show (false || (backTo cpos (starEach es X.env)).any (·.1)) = false; rw [hplain] <;> rfl) (Calls.evalArgs_plain ?_)
  exact thn hA fun us s2 ⟨vs, H2, I2, r2, q2⟩ => mt_indexT hu pins s2 σ H2 (.ref a) vs _ us Q I2 rfl r2 q2
end
section
variable {α β ε : Type} {M : Mx} {R : ERep ε}
/-- a tuple whose object is known -/
def rTZ {α : Type} (r : Rep α) : Rep (List α) := ⟨fun K G v xs => ∃ (L : Addr) (o : Obj) (vs : List V), v = .ref L ∧ G L = some (.frz o (.tup vs)) ∧ o.dict = none ∧ A2 (r.rel K G) vs xs, fun s ⟨L, o, vs, h1, h2, h3, h4⟩ => ⟨L, o, vs, h1, s _ _ h2, h3, h4.mono fun _ _ => r.mono s⟩⟩
theorem v_tupZ {K : PySem.W.Frag} {r : Rep α} : VR K (rTupZ K) (aOne (rd (oL r))) (rTZ r) gId := fun G H v a b Q s ⟨x, h0, L, ho, h1, h2, vs, h3, h4⟩ hg k => by
  cases hg; subst h0 h1 h3
  exact ⟨L, vs, rfl, sql_h h2, fun p o hp hd => k (.ref p) _ _ (.new s hp) ⟨p, o, _, rfl, upd_same, hd, h4.mono fun _ _ => r.mono (sub_upd (s.no hp))⟩⟩
def gIdxT [DecidableEq α] (xs : List α) (a : α) : Option Int := if a ∈ xs then some ((xs.idxOf a : Nat) : Int) else none
theorem dpAll_of {K : PySem.W.Frag} {G H : Hp} {r : Rep α} {E : En α} (d : Da (ir r) E) (s : Sub G H) {vs : List V} {xs : List α} (h : A2 (r.rel K G) vs xs) : DpAll K H vs (xs.map E.enc) := by
  induction h with
  | nil => exact .nil
  | cons h _ ih => exact .cons (d _ _ _ _ _ s h) ih
theorem x_idxT [DecidableEq α] {to : TE} {ta : TA} {r : Rep α} {E : En α} {m : ε → Rs ε (List α)} {m' : ε → Rs ε α} (d : Da (ir r) E) (hq : EnEq E) (hn : E.dn ≤ 59) (h : EX M R to (fz (rTZ r)) m) (k : EX M R ta (fz (gOne r)) m') : EX M R (tTIdx M.K to ta) (fz rI) (mOp gIdxT m m') := fun F G H σ e i hR Q p =>
  h F G H σ e i hR _ (p.bind fz_h fun v a e1 G1 H1 i1 s1 R1 r1 p1 => by
    obtain ⟨⟨L, ob, vs, rfl, hg, hd, ha⟩, _⟩ := r1
    refine ⟨⟨L, ob, vs, rfl, i1.gh _ _ hg, hd⟩, k F G1 H1 σ e1 i1 R1 _ (p1.bind fz_h fun ws b e2 G2 H2 i2 s2 R2 r2 p2 => ?_)⟩
    obtain ⟨⟨w, rfl, hw⟩, _⟩ := r2
    obtain ⟨c, hc, p3⟩ := of_some p2
    obtain ⟨hz, rfl⟩ := of_ite hc
    have hlt := List.idxOf_lt_length_iff.mpr hz
    refine ⟨L, w, E.enc b, a.map E.enc, a.idxOf b, E.enc b, rfl, rfl, .tup (.inl (.inr ⟨ob, i2.gh _ _ (s2 _ _ hg)⟩)) (dpAll_of d i2.gh (ha.mono fun _ _ => r.mono s2)), d _ _ _ _ _ i2.gh hw, (enT E).shaped (by show E.dn + 1 ≤ 60; omega) a, E.shaped (by omega) b, ?_, ?_, ?_, p3 _ G2 H2 H2 i2 .refl ⟨rfl, rfl⟩ R2⟩
    · rw [List.getElem?_map, List.getElem?_eq_getElem hlt, List.getElem_idxOf]
      rfl
    · rw [hq]
      simp
    · intro j z' hj hz'
      rw [List.getElem?_map] at hz'
      obtain ⟨x, hx, rfl⟩ := Option.map_eq_some_iff.mp hz'
      have := List.not_of_lt_findIdx (p := fun y => y == b) (xs := a) hj
      obtain ⟨hl, hx⟩ := List.getElem?_eq_some_iff.mp hx
      rw [hx] at this
      rw [hq]
      simpa using this)
end
section
variable {α β γ ε ρ : Type} {M : Mx} {R : ERep ε}
def asS : Th → Option Str | .str x => some x | _ => none
theorem c_asS : CastR rTh rS asS := fun K G v a b h e => by
  cases a with
  | str x =>
    cases e
    have h : thR G v (.str b) := h
    unfold thR at h
    exact h
  | _ => cases e
mutual
def thd : Th → Option PyData
  | .int i => some (.int i)
  | .bl b => some (.bool b)
  | .non => some .none
  | .str s => some (.str s)
  | .lst xs => (thds xs).map .list
  | .tup xs => (thds xs).map .tuple
  | .dic _ => none
  | .dct _ => none
def thds : List Th → Option (List PyData)
  | [] => some []
  | x :: xs => (thd x).bind fun d => (thds xs).map fun ds => d :: ds
end
mutual
theorem dp_th {K : PySem.W.Frag} {G H : Hp} (s : Sub G H) : ∀ {t : Th} {v : V} {d : PyData}, thR G v t → thd t = some d → Dp K H v d
  | .int i, v, d, h, e => by unfold thR at h; unfold thd at e; cases e; rw [h]; exact .int i
  | .bl b, v, d, h, e => by unfold thR at h; unfold thd at e; cases e; rw [h]; exact .bl b
  | .non, v, d, h, e => by unfold thR at h; unfold thd at e; cases e; rw [h]; exact .non
  | .str x, v, d, h, e => by unfold thR at h; unfold thd at e; cases e; rw [h]; exact .str x
  | .lst xs, v, d, h, e => by
    unfold thR at h
    unfold thd at e
    obtain ⟨L, vs, rfl, h1, h2⟩ := h
    obtain ⟨ds, e1, rfl⟩ := Option.map_eq_some_iff.mp e
    exact .lst (sql_h (s _ _ h1)) (dp_ths s h2 e1)
  | .tup xs, v, d, h, e => by
    unfold thR at h
    unfold thd at e
    obtain ⟨L, vs, rfl, h1, h2⟩ := h
    obtain ⟨ds, e1, rfl⟩ := Option.map_eq_some_iff.mp e
    exact .tup (.of (s _ _ h1)) (dp_ths s h2 e1)
  | .dic _, v, d, h, e => by unfold thd at e; cases e
  | .dct _, v, d, h, e => by unfold thd at e; cases e
theorem dp_ths {K : PySem.W.Frag} {G H : Hp} (s : Sub G H) : ∀ {ts : List Th} {vs : List V} {ds : List PyData}, thRs G vs ts → thds ts = some ds → DpAll K H vs ds
  | [], vs, ds, h, e => by
    unfold thds at e
    cases e
    unfold thRs at h
    subst h
    exact .nil
  | t :: ts, vs, ds, h, e => by
    unfold thds at e
    obtain ⟨d, e1, e2⟩ := Option.bind_eq_some_iff.mp e
    obtain ⟨ds', e3, rfl⟩ := Option.map_eq_some_iff.mp e2
    unfold thRs at h
    obtain ⟨v, ws, rfl, h1, h2⟩ := h
    exact .cons (dp_th s h1 e1) (dp_ths s h2 e3)
end
end
namespace PySem
end PySem
open PySem PySem.Spec PyProof.Rows L2
namespace L2
open PySem PySem.Spec PyProof.Rows
theorem KV.nth {κ : Type} {kvs : List (κ × V)} {vs : List (κ × Value)} (r : KV kvs vs) : ∀ {i : Nat} {x : κ × V}, kvs[i]? = some x → ∃ v, vs[i]? = some (x.1, v) ∧ RelV x.2 v := by
  unfold KV at r
  induction r with
  | nil => intro i x e; cases e
  | cons r t ih =>
    intro i x e
    cases i with
    | zero =>
      cases e
      exact ⟨_, (show some _ = some (_, _) from congrArg some (Prod.ext r.1.symm rfl)), r.2⟩
    | succ i => exact ih e
variable {X : Cx} {i o : Expr} {apos mpos : Pos} {ty td : TE}
end L2
open PySem PySem.Spec PyProof.Rows L2
section
variable {κ : Type} {ε : Type} {M : Mx} {R : ERep ε}
def gVNin (c : Bool) (kbs : List (κ × Bool)) : Option Bool := some (!decide (c ∈ kbs.map (·.2)))
end
namespace L2
open PySem PySem.Spec PyProof.Rows
end L2
open PySem PySem.Spec PyProof.Rows L2
section
variable {α β γ ε : Type} {M : Mx} {R : ERep ε}
def gKeys {κ : Type} (kbs : List (κ × β)) : Option (List κ) := some (keysOf kbs)
def encI (a : List Int) : PyData := .list (a.map .int)
def leLL (a b : List Int) : Bool := PySem.W.dataLe false id (encI a) (encI b)
def gSortLL (xs : List (List Int)) : Option (List (List Int)) := if xs.length ≤ 1000000 then some (xs.mergeSort leLL) else none
theorem alike_ints : ∀ a b : List Int, PySem.W.alikeAll (a.map .int) (b.map .int) = true
  | [], _ => by simp [PySem.W.alikeAll]
  | _ :: _, [] => by simp [PySem.W.alikeAll]
  | x :: a, y :: b => by
    rw [List.map_cons, List.map_cons, PySem.W.alikeAll, alike_ints a b]
    simp [PySem.W.alike]
theorem depth_ints : ∀ a : List Int, PyData.depthAll (a.map .int) = 0
  | [] => by simp [PyData.depthAll]
  | x :: a => by
    rw [List.map_cons, PyData.depthAll, depth_ints a]
    simp [PyData.depth]
theorem v_sortLL {K : PySem.W.Frag} : VF K (rSortD K) (aOne (rd (oL (rL rI)))) (oL (rL rI)) gSortLL := fun G H v a b Q s ⟨x, h0, L, ho, h1, h2, vs, h3, h4⟩ hg k => by
  subst h0 h1 h3
  obtain ⟨hz, rfl⟩ := of_ite hg
  have hlen := A2.length h4
  have e1 : ∀ {vs : List V} {a : List (List Int)}, A2 ((rL rI).rel K G) vs a → ((vs.zip a).map fun p => (p.1, encI p.2)).map (·.1) = vs := fun h => by
    induction h with
    | nil => rfl
    | cons _ _ ih => rw [List.zip_cons_cons, List.map_cons, List.map_cons, ih]
  have e2 : ∀ {vs : List V} {a : List (List Int)}, A2 ((rL rI).rel K G) vs a → (vs.zip a).map (·.2) = a := fun h => by
    induction h with
    | nil => rfl
    | cons _ _ ih => rw [List.zip_cons_cons, List.map_cons, ih]
  have e3 : ∀ {vs : List V} {a : List (List Int)}, A2 ((rL rI).rel K G) vs a → ∀ p ∈ vs.zip a, (rL rI).rel K G p.1 p.2 := fun h => by
    induction h with
    | nil => intro p hp; cases hp
    | cons h _ ih =>
      intro p hp
      rw [List.zip_cons_cons] at hp
      rcases List.mem_cons.mp hp with rfl | hp
      · exact h
      · exact ih p hp
  refine ⟨L, (vs.zip a).map fun p => (p.1, encI p.2), rfl, by rw [e1 h4]; exact sql_h h2, fun q hq => ?_, ?_, ?_, ?_, ?_, ?_⟩
  · obtain ⟨p, hp, rfl⟩ := List.mem_map.mp hq
    obtain ⟨L', ho', r0, r1, us, rfl, r2⟩ := e3 h4 p hp
    show Dp K H p.1 (encI p.2)
    rw [r0]
    obtain rfl := ints_of r2
    exact dp_lst (sql_h (s _ _ r1))
  · intro d hd d' hd'
    rw [List.map_map] at hd hd'
    obtain ⟨p, _, rfl⟩ := List.mem_map.mp hd
    obtain ⟨p', _, rfl⟩ := List.mem_map.mp hd'
    show PySem.W.alike (encI p.2) (encI p'.2) = true
    unfold encI
    rw [PySem.W.alike]
    exact alike_ints _ _
  · refine .inr fun d hd => ?_
    rw [List.map_map] at hd
    obtain ⟨p, _, rfl⟩ := List.mem_map.mp hd
    exact ⟨nofun, fun xs => nofun⟩
  · rw [List.length_map, List.length_zip, hlen]
    omega
  · intro q hq
    obtain ⟨p, _, rfl⟩ := List.mem_map.mp hq
    show PyData.depth (encI p.2) ≤ 40
    unfold encI
    rw [PyData.depth, depth_ints]
    decide
  · intro p hp
    refine k p _ G _ (.own s hp) hp (s.no hp) upd_same ⟨_, rfl, ?_⟩
    have m1 : (((vs.zip a).map fun p => (p.1, encI p.2)).mergeSort (PySem.W.dataLe false Prod.snd)).map (·.1) = ((vs.zip a).mergeSort fun p q => leLL p.2 q.2).map (·.1) := by
      rw [← PySem.W.sort_maps (r := fun p q : V × List Int => leLL p.2 q.2) (s := PySem.W.dataLe false Prod.snd) (fun p => (p.1, encI p.2)) fun _ _ _ _ => rfl, List.map_map]
      rfl
    have m2 : a.mergeSort leLL = ((vs.zip a).mergeSort fun p q => leLL p.2 q.2).map (·.2) := by
      rw [PySem.W.sort_maps (r := fun p q : V × List Int => leLL p.2 q.2) (s := leLL) (·.2) fun _ _ _ _ => rfl, e2 h4]
    rw [m1, m2]
    have hm : ∀ q ∈ (vs.zip a).mergeSort (fun p q => leLL p.2 q.2), (rL rI).rel K G q.1 q.2 := fun q hq => e3 h4 q (List.mem_mergeSort.mp hq)
    generalize (vs.zip a).mergeSort (fun p q => leLL p.2 q.2) = qs at hm
    induction qs with
    | nil => exact .nil
    | cons q qs ih => exact .cons (hm q List.mem_cons_self) (ih fun x hx => hm x (List.mem_cons_of_mem _ hx))
end
def hideS (H : Hp) (S : List Addr) : Hp := fun b => if b ∈ S then none else H b
section
variable {H H' G G' : Hp} {S S' : List Addr} {L b : Addr} {o : HO}
theorem hideS_in (h : b ∈ S) : hideS H S b = none := if_pos h
theorem hideS_ne (h : b ∉ S) : hideS H S b = H b := if_neg h
theorem hideS_some (h : hideS H S b = some o) : b ∉ S ∧ H b = some o := by
  by_cases e : b ∈ S
  · rw [hideS_in e] at h; cases h
  · exact ⟨e, by rwa [hideS_ne e] at h⟩
theorem hideS_sub : Sub (hideS H S) H := fun b o h => (hideS_some h).2
theorem Sub.hideS (a : Sub H H') : Sub (hideS H S) (hideS H' S) := fun b o h => by
  obtain ⟨n, e⟩ := hideS_some h
  rw [hideS_ne n]; exact a b o e
theorem hideS_nil : hideS H [] = H := by
  funext b; exact hideS_ne List.not_mem_nil
theorem hideS_hide : hideS (hide H L) S = hide (hideS H S) L := by
  funext b
  unfold hideS hide
  by_cases e : b ∈ S <;> by_cases e' : b = L <;> simp [e, e']
end
/-- a value and the addresses of its own parts -/
structure DRep (α : Type) where
  rel : PySem.W.Frag → Hp → Hp → List Addr → V → α → Prop
  gm : ∀ {K G G' H S v a}, Sub G G' → rel K G H S v a → rel K G' H S v a
  loc : ∀ {K G H H' S v a}, (∀ b ∈ S, H' b = H b) → rel K G H S v a → rel K G H' S v a
  ne : ∀ {K G H S v a}, rel K G H S v a → ∀ b ∈ S, ∃ o, H b = some o ∧ ∀ xs, o ≠ .tup xs
  cg : ∀ {K G H S S' v a}, (∀ b, b ∈ S' ↔ b ∈ S) → rel K G H S v a → rel K G H S' v a
section
variable {α β γ : Type} {K : PySem.W.Frag} {G G' H H' : Hp} {S S' : List Addr} {v : V} {a : α}
theorem DRep.hm {d : DRep α} (s : Sub H H') (h : d.rel K G H S v a) : d.rel K G H' S v a :=
  d.loc (fun b hb => let ⟨o, e, _⟩ := d.ne h b hb; by rw [e, s _ _ e]) h
theorem DRep.nn {d : DRep α} (h : d.rel K G H S v a) (b : Addr) (hb : b ∈ S) : H b ≠ none := let ⟨o, e, _⟩ := d.ne h b hb; by rw [e]; intro z; cases z
/-- an object that holds frozen things -/
def dq (q : ORep α) (nt : NT q) : DRep α := ⟨fun K G H S v a => ∃ L ho, v = .ref L ∧ (∀ b, b ∈ S ↔ b = L) ∧ H L = some ho ∧ q.rel K G ho a, fun s ⟨L, ho, h1, h2, h3, h4⟩ => ⟨L, ho, h1, h2, h3, q.mono s h4⟩,
  fun e ⟨L, ho, h1, h2, h3, h4⟩ => ⟨L, ho, h1, h2, by rw [e L ((h2 L).mpr rfl)]; exact h3, h4⟩, fun ⟨L, ho, h1, h2, h3, h4⟩ b hb => by
    obtain rfl := (h2 b).mp hb
    exact ⟨ho, h3, nt _ _ _ _ h4⟩, fun e ⟨L, ho, h1, h2, h3, h4⟩ => ⟨L, ho, h1, fun b => (e b).trans (h2 b), h3, h4⟩⟩
/-- values one by one, their parts apart -/
inductive DAs (d : DRep α) (K : PySem.W.Frag) (G H : Hp) : List Addr → List V → List α → Prop
  | nil {T : List Addr} (e : ∀ b, b ∉ T) : DAs d K G H T [] []
  | cons {T T1 T2 : List Addr} {x : V} {xs : List V} {y : α} {ys : List α} (h : d.rel K G H T1 x y) (dj : ∀ b ∈ T1, b ∉ T2) (eq : ∀ b, b ∈ T ↔ b ∈ T1 ∨ b ∈ T2) (t : DAs d K G H T2 xs ys) : DAs d K G H T (x :: xs) (y :: ys)
section
variable {d : DRep α} {vs ws : List V} {as bs : List α}
theorem DAs.gm (s : Sub G G') (h : DAs d K G H S vs as) : DAs d K G' H S vs as := by
  induction h with
  | nil e => exact .nil e
  | cons h dj eq _ ih => exact .cons (d.gm s h) dj eq ih
theorem DAs.loc (e : ∀ b ∈ S, H' b = H b) (h : DAs d K G H S vs as) : DAs d K G H' S vs as := by
  induction h with
  | nil e' => exact .nil e'
  | cons h dj eq _ ih => exact .cons (d.loc (fun b hb => e b ((eq b).mpr (.inl hb))) h) dj eq (ih fun b hb => e b ((eq b).mpr (.inr hb)))
theorem DAs.ne (h : DAs d K G H S vs as) : ∀ b ∈ S, ∃ o, H b = some o ∧ ∀ xs, o ≠ .tup xs := by
  induction h with
  | nil e => exact fun b hb => absurd hb (e b)
  | cons h dj eq _ ih => exact fun b hb => ((eq b).mp hb).elim (d.ne h b) (ih b)
theorem DAs.cg (e : ∀ b, b ∈ S' ↔ b ∈ S) (h : DAs d K G H S vs as) : DAs d K G H S' vs as := by
  cases h with
  | nil e' => exact .nil fun b hb => e' b ((e b).mp hb)
  | cons h dj eq t => exact .cons h dj (fun b => (e b).trans (eq b)) t
theorem DAs.length (h : DAs d K G H S vs as) : vs.length = as.length := by
  induction h with
  | nil _ => rfl
  | cons _ _ _ _ ih => simp [ih]
/-- two rows, one behind the other -/
theorem DAs.app {S1 S2 : List Addr} (h : DAs d K G H S1 vs as) (h' : DAs d K G H S2 ws bs) (dj : ∀ b ∈ S1, b ∉ S2) (eq : ∀ b, b ∈ S ↔ b ∈ S1 ∨ b ∈ S2) : DAs d K G H S (vs ++ ws) (as ++ bs) := by
  induction h generalizing S with
  | nil e => exact h'.cg fun b => by rw [eq b]; exact ⟨fun z => z.elim (fun z => absurd z (e b)) id, .inr⟩
  | @cons T T1 T2 v vs a as h dj1 eq1 t ih =>
    have dj2 : ∀ b ∈ T2, b ∉ S2 := fun b hb => dj b ((eq1 b).mpr (.inr hb))
    refine .cons (T2 := T2 ++ S2) h (fun b hb z => ?_) (fun b => ?_) (ih dj2 fun b => List.mem_append)
    · rcases List.mem_append.mp z with z | z
      · exact dj1 b hb z
      · exact dj b ((eq1 b).mpr (.inl hb)) z
    · rw [eq b, eq1 b, List.mem_append, or_assoc]
/-- one of them, and what may stand in its place -/
theorem DAs.at (h : DAs d K G H S vs as) {i : Nat} (ha : as[i]? = some a) : ∃ v S1 S2, vs[i]? = some v ∧ d.rel K G H S1 v a ∧ (∀ b, b ∈ S ↔ b ∈ S1 ∨ b ∈ S2) ∧ (∀ b ∈ S1, b ∉ S2) ∧
    (∀ {G' H' S1' v' a' S'}, Sub G G' → (∀ b ∈ S2, H' b = H b) → d.rel K G' H' S1' v' a' → (∀ b ∈ S1', b ∉ S2) → (∀ b, b ∈ S' ↔ b ∈ S1' ∨ b ∈ S2) → DAs d K G' H' S' (vs.set i v') (as.set i a')) ∧
    DAs d K G H S2 (vs.eraseIdx i) (as.eraseIdx i) := by
  induction h generalizing i with
  | nil e => simp at ha
  | @cons T T1 T2 w vs x as h dj eq t ih =>
    cases i with
    | zero =>
      simp at ha
      subst ha
      exact ⟨w, T1, T2, rfl, h, eq, dj, fun s e hr dj' eq' => .cons hr dj' eq' ((t.gm s).loc e), t⟩
    | succ i =>
      obtain ⟨v, S1, S2, e1, e2, e3, e4, e5, e6⟩ := ih (by simpa using ha)
      refine ⟨v, S1, T1 ++ S2, by simpa using e1, e2, fun b => ?_, fun b hb z => ?_, ?_, ?_⟩
      · rw [eq b, e3 b, List.mem_append]
        constructor
        · rintro (z | z | z)
          · exact .inr (.inl z)
          · exact .inl z
          · exact .inr (.inr z)
        · rintro (z | z | z)
          · exact .inr (.inl z)
          · exact .inl z
          · exact .inr (.inr z)
      · rcases List.mem_append.mp z with z | z
        · exact dj b z ((e3 b).mpr (.inl hb))
        · exact e4 b hb z
      · intro G' H' S1' v' a' S' s e hr dj' eq'
        refine .cons (T2 := S1' ++ S2) (d.gm s (d.loc (fun b hb => e b (List.mem_append.mpr (.inl hb))) h)) (fun b hb z => ?_) (fun b => ?_) (e5 s (fun b hb => e b (List.mem_append.mpr (.inr hb))) hr (fun b hb z => dj' b hb (List.mem_append.mpr (.inr z))) fun b => List.mem_append)
        · rcases List.mem_append.mp z with z | z
          · exact dj' b z (List.mem_append.mpr (.inl hb))
          · exact dj b hb ((e3 b).mpr (.inr z))
        · rw [eq' b, List.mem_append, List.mem_append]
          constructor
          · rintro (z | z | z)
            · exact .inr (.inl z)
            · exact .inl z
            · exact .inr (.inr z)
          · rintro (z | z | z)
            · exact .inr (.inl z)
            · exact .inl z
            · exact .inr (.inr z)
      · exact .cons h (fun b hb z => dj b hb ((e3 b).mpr (.inr z))) (fun b => List.mem_append) e6
end
/-- a list of such -/
def dL (d : DRep α) : DRep (List α) := ⟨fun K G H S v as => ∃ L S' vs, v = .ref L ∧ (∀ b, b ∈ S ↔ b = L ∨ b ∈ S') ∧ L ∉ S' ∧ H L = some (.lst vs) ∧ DAs d K G H S' vs as,
  fun s ⟨L, S', vs, h1, h2, h3, h4, h5⟩ => ⟨L, S', vs, h1, h2, h3, h4, h5.gm s⟩,
  fun e ⟨L, S', vs, h1, h2, h3, h4, h5⟩ => ⟨L, S', vs, h1, h2, h3, by rw [e L ((h2 L).mpr (.inl rfl))]; exact h4, h5.loc fun b hb => e b ((h2 b).mpr (.inr hb))⟩,
  fun ⟨L, S', vs, h1, h2, h3, h4, h5⟩ b hb => by
    rcases (h2 b).mp hb with rfl | z
    · exact ⟨_, h4, fun xs z => by cases z⟩
    · exact h5.ne b z,
  fun e ⟨L, S', vs, h1, h2, h3, h4, h5⟩ => ⟨L, S', vs, h1, fun b => (e b).trans (h2 b), h3, h4, h5⟩⟩
/-- a dict of such, keyed by tuples of numbers; by numbers -/
def dD (d : DRep β) : DRep (List (List Int × β)) := ⟨fun K G H S v as => ∃ L S' kvs, v = .ref L ∧ (∀ b, b ∈ S ↔ b = L ∨ b ∈ S') ∧ L ∉ S' ∧ H L = some (.dT kvs) ∧ (kvs.map (fun p : List Key × V => p.1) = as.map (fun p : List Int × β => kTup.f p.1) ∧ (as.map fun p : List Int × β => p.1).Nodup) ∧ DAs d K G H S' (kvs.map fun p : List Key × V => p.2) (as.map fun p : List Int × β => p.2),
  fun s ⟨L, S', vs, h1, h2, h3, h4, h5, h6⟩ => ⟨L, S', vs, h1, h2, h3, h4, h5, by exact DAs.gm s h6⟩,
  fun e ⟨L, S', vs, h1, h2, h3, h4, h5, h6⟩ => ⟨L, S', vs, h1, h2, h3, by rw [e L ((h2 L).mpr (.inl rfl))]; exact h4, h5, by exact DAs.loc (fun b hb => e b ((h2 b).mpr (.inr hb))) h6⟩,
  fun ⟨L, S', vs, h1, h2, h3, h4, h5, h6⟩ b hb => by
    rcases (h2 b).mp hb with rfl | z
    · exact ⟨_, h4, fun xs z => by cases z⟩
    · exact DAs.ne h6 b z,
  fun e ⟨L, S', vs, h1, h2, h3, h4, h5⟩ => ⟨L, S', vs, h1, fun b => (e b).trans (h2 b), h3, h4, h5⟩⟩
end
def DFz {α : Type} (d : DRep α) (r : Rep α) : Prop := ∀ {K G G' H S v a}, d.rel K G H S v a → Sub G G' → (∀ b ∈ S, G' b = H b) → r.rel K G' v a
def OwS (own : Frm → Addr → Prop) (F : Frm) (G : Hp) (S : List Addr) : Prop := ∀ b ∈ S, own F b ∧ G b = none
/-- handed in to be changed, and what is new since then -/
def ownW : Frm → Addr → Prop := fun F L => (F.H0 L = none ∨ L ∈ F.ws) ∧ F.X L = none ∧ F.Y L = none
theorem ownW_q : OwnQ ownW := fun _ _ h => h
instance ownW_p : OwnP ownW := by
  refine ⟨fun h n => ⟨h.1, (upd_ne n).trans h.2.1, h.2.2⟩, fun {F L D o} h => ?_, fun h n => ⟨h.1, h.2.1, (upd_ne n).trans h.2.2⟩, fun {F L D o} h => ?_⟩
  · have n : L ≠ D := fun z => by
      have := h.2.1
      rw [z] at this
      exact nomatch (show some o = none from upd_same.symm.trans this)
    exact ⟨n, h.1, (upd_ne n).symm.trans h.2.1, h.2.2⟩
  · have n : L ≠ D := fun z => by
      have := h.2.2
      rw [z] at this
      exact nomatch (show some o = none from upd_same.symm.trans this)
    exact ⟨n, h.1, h.2.1, (upd_ne n).symm.trans h.2.2⟩
def eDp {α ε : Type} (own : Frm → Addr → Prop) [op : OwnP own] (d : DRep α) (R : ERep ε) : ERep (Option α × ε) :=
  ⟨fun K F G H σ e => ∃ o σ', σ = o :: σ' ∧ ((e.1 = none ∧ R.rel K F G H σ' e.2) ∨ ∃ x v S, e.1 = some x ∧ o = some v ∧ d.rel K G H S v x ∧ OwS own F G S ∧ R.rel K F G (hideS H S) σ' e.2), fun {K F G G' H H' σ e} g h n ⟨o, σ', h1, h2⟩ => by
    refine ⟨o, σ', h1, ?_⟩
    rcases h2 with ⟨a, b⟩ | ⟨x, v, S, a1, a2, a3, a4, a5⟩
    · exact .inl ⟨a, R.mono g h n b⟩
    · refine .inr ⟨x, v, S, a1, a2, d.gm g (d.hm h a3), fun b hb => ⟨(a4 b hb).1, ?_⟩, R.mono g h.hideS (fun b hb hn => n b (hideS_sub.ne hb) hn) a5⟩
      cases z : G' b with
      | none => rfl
      | some u => exact absurd (a4 b hb).2 (n b (d.nn a3 b hb) (by rw [z]; intro z; cases z)),
   fun {K F G H σ e D o'} ⟨o, σ', h1, h2⟩ => by
    refine ⟨o, σ', h1, ?_⟩
    rcases h2 with ⟨a, b⟩ | ⟨x, v, S, a1, a2, a3, a4, a5⟩
    · exact .inl ⟨a, R.lock b⟩
    · exact .inr ⟨x, v, S, a1, a2, d.hm hide_sub a3, fun b hb => ⟨op.lock (a4 b hb).1 (fun z => d.nn a3 b hb (by rw [z]; exact hide_same)), (a4 b hb).2⟩, R.lock (by rw [← hideS_hide]; exact a5)⟩,
   fun {K F G H σ e D o'} ⟨o, σ', h1, h2⟩ => by
    refine ⟨o, σ', h1, ?_⟩
    rcases h2 with ⟨a, b⟩ | ⟨x, v, S, a1, a2, a3, a4, a5⟩
    · exact .inl ⟨a, R.unlock b⟩
    · have n : ∀ b ∈ S, b ≠ D := fun b hb => (op.unlock (a4 b hb).1).1
      exact .inr ⟨x, v, S, a1, a2, d.loc (fun b hb => hide_ne (n b hb)) a3, fun b hb => ⟨(op.unlock (a4 b hb).1).2, (a4 b hb).2⟩, by rw [hideS_hide]; exact R.unlock a5⟩⟩
structure DpAt {α ε : Type} (R : ERep ε) (n : Nat) (own : Frm → Addr → Prop) (d : DRep α) (l : Ln ε α) : Prop where
  rd : ∀ {K F G H σ e a}, R.rel K F G H σ e → l.get e = some a → ∃ v S, σ[n]? = some (some v) ∧ d.rel K G H S v a ∧ OwS own F G S ∧ R.rel K F G (hideS H S) σ (l.put none e)
  bk : ∀ {K F G H σ e v S a}, R.rel K F G (hideS H S) σ e → σ[n]? = some (some v) → d.rel K G H S v a → OwS own F G S → R.rel K F G H σ (l.put (some a) e)
  wr : ∀ {K F G H σ e v S a}, R.rel K F G (hideS H S) σ e → d.rel K G H S v a → OwS own F G S → R.rel K F G H (σ.set n (some v)) (l.put (some a) e)
  kl : ∀ {K F G H σ e}, R.rel K F G H σ e → R.rel K F G H σ (l.put none e)
section
variable {α β ε : Type} {R : ERep ε} {n : Nat} {r : Rep α} {q : ORep α} {d : DRep α} {own own' : Frm → Addr → Prop} [op : OwnP own] [op' : OwnP own'] {l : Ln ε α} {r' : Rep β} {q' : ORep β} {d' : DRep β}
theorem DpAt.z : DpAt (eDp own d R) 0 own d Ln.z := by
  refine ⟨?_, ?_, ?_, ?_⟩
  · rintro K F G H σ e a ⟨o, σ', rfl, ⟨h1, h2⟩ | ⟨x, v, S, a1, a2, a3, a4, a5⟩⟩ hh
    · rw [show (Ln.z : Ln _ α).get e = e.1 from rfl, h1] at hh; cases hh
    · rw [show (Ln.z : Ln _ α).get e = e.1 from rfl, a1] at hh
      cases hh
      exact ⟨v, S, by rw [a2]; rfl, a3, a4, o, _, rfl, .inl ⟨rfl, a5⟩⟩
  · rintro K F G H σ e v S a ⟨o, σ', rfl, ⟨h1, h2⟩ | ⟨x, v', S', a1, a2, a3, a4, a5⟩⟩ hs hd ow
    · exact ⟨o, _, rfl, .inr ⟨a, v, S, rfl, by simpa using hs, hd, ow, h2⟩⟩
    · exact ⟨o, _, rfl, .inr ⟨a, v, S, rfl, by simpa using hs, hd, ow, R.mono .refl hideS_sub (fun b _ h => h) a5⟩⟩
  · rintro K F G H σ e v S a ⟨o, σ', rfl, ⟨h1, h2⟩ | ⟨x, v', S', a1, a2, a3, a4, a5⟩⟩ hd ow
    · exact ⟨_, _, rfl, .inr ⟨a, v, S, rfl, rfl, hd, ow, h2⟩⟩
    · exact ⟨_, _, rfl, .inr ⟨a, v, S, rfl, rfl, hd, ow, R.mono .refl hideS_sub (fun b _ h => h) a5⟩⟩
  · rintro K F G H σ e ⟨o, σ', rfl, ⟨h1, h2⟩ | ⟨x, v', S', a1, a2, a3, a4, a5⟩⟩
    · exact ⟨o, _, rfl, .inl ⟨rfl, h2⟩⟩
    · exact ⟨o, _, rfl, .inl ⟨rfl, R.mono .refl hideS_sub (fun b _ h => h) a5⟩⟩
theorem LkR.dp (h : LkR R) : LkR (eDp own d R) := by
  refine ⟨?_, ?_⟩
  · rintro K F G H σ e D o' ⟨o, σ', h1, h2⟩
    refine ⟨o, σ', h1, ?_⟩
    rcases h2 with ⟨a, b⟩ | ⟨x, v, S, a1, a2, a3, a4, a5⟩
    · exact .inl ⟨a, h.lk b⟩
    · exact .inr ⟨x, v, S, a1, a2, d.hm hide_sub a3, fun b hb => ⟨op.lockY (a4 b hb).1 (fun z => d.nn a3 b hb (by rw [z]; exact hide_same)), (a4 b hb).2⟩, h.lk (by rw [← hideS_hide]; exact a5)⟩
  · rintro K F G H σ e D o' ⟨o, σ', h1, h2⟩
    refine ⟨o, σ', h1, ?_⟩
    rcases h2 with ⟨a, b⟩ | ⟨x, v, S, a1, a2, a3, a4, a5⟩
    · exact .inl ⟨a, h.ul b⟩
    · have n : ∀ b ∈ S, b ≠ D := fun b hb => (op.unlockY (a4 b hb).1).1
      exact .inr ⟨x, v, S, a1, a2, d.loc (fun b hb => hide_ne (n b hb)) a3, fun b hb => ⟨(op.unlockY (a4 b hb).1).2, (a4 b hb).2⟩, by rw [hideS_hide]; exact h.ul a5⟩
theorem Kl.dp {l : Ln ε α} (a : DpAt R n own d l) : Kl R (l.put none) := ⟨a.kl⟩
end
/-- a new value, all its parts one's own -/
def fd {α : Type} (d : DRep α) : RS V α := ⟨fun K F G H v a H1 => ∃ S, d.rel K G H S v a ∧ OwS ownN F G S ∧ H1 = hideS H S⟩
section
variable {ν α β γ ε ρ κ : Type} {M : Mx} {R R' : ERep ε} {F : Frm} {G G' H H' : Hp} {σ : Sg} {n : Nat} {l : Ln ε α} {own : Frm → Addr → Prop} {rr : RS V ρ} {d : DRep α} {d' : DRep β} {r : Rep α}
abbrev fr0 (G H : Hp) : Frm := ⟨G, H, [], fun _ => none, fun _ => none⟩
/-- an expression that changes nothing -/
def EXP (M : Mx) (R : ERep ε) (t : Sg → Hp → (ν → Hp → Prop) → Prop) (rs : RS ν α) (m : ε → Rs ε α) : Prop :=
  ∀ F G H σ e, IV F G H → R.rel M.K F G H σ e → ∀ Q, (∃ a e', m e = .ok a e' ∧ ∀ v G' H' H1, IV F G' H' → Sub G G' → Sub H H' → (∀ b, H b ≠ none → G' b ≠ none → G b ≠ none) → rs.rel M.K (fr0 G H) G' H' v a H1 → Q v H') → t σ H Q
def mView (m : ε → Rs ε α) : ε → Rs ε α := fun e => match m e with
  | .ok a _ => .ok a e
  | _ => .bad
theorem EXP.ex {t : Sg → Hp → (ν → Hp → Prop) → Prop} {r : GR ν α} {m : ε → Rs ε α} (h : EXP M R t (fz r) m) : EX M R t (fz r) (mView m) := fun F G H σ e i hR Q p => by
  refine h F G H σ e i hR Q ?_
  unfold mView at p
  revert p
  cases m e with
  | ok a e' => exact fun p => ⟨a, e', rfl, fun v G' H' H1 i1 s1 s2 n hr => p v G' H' _ i1 s1 ⟨hr.1, rfl⟩ (R.mono s1 s2 n hR)⟩
  | ex c e' => exact fun p => p.elim
  | bad => exact fun p => p.elim
/-- the same names, all that is one's own frozen or borrowed -/
structure VwR (R R' : ERep ε) : Prop where
  to : ∀ {K F G Ht H σ e}, IV F G Ht → Sub H Ht → R.rel K F G H σ e → ∃ S : List Addr, (∀ b ∈ S, G b = none ∧ ∃ o, H b = some o ∧ ∀ xs, o ≠ .tup xs) ∧
    ∀ {G1}, Sub G G1 → (∀ b ∈ S, G1 b = Ht b) → R'.rel K (fr0 G1 Ht) G1 Ht σ e
theorem VwR.nil : VwR eNil eNil := ⟨fun _ _ h => ⟨[], fun b hb => absurd hb List.not_mem_nil, fun _ _ => h⟩⟩
section
variable {R1 R1' : ERep ε} [op : OwnP own]
theorem VwR.fr {r : Rep α} (h : VwR R1 R1') : VwR (eFr r R1) (eFr r R1') := ⟨fun i s ⟨o, σ', h1, h2, h3⟩ => by
  obtain ⟨S, k1, k2⟩ := h.to i s h3
  exact ⟨S, k1, fun s1 s2 => ⟨o, σ', h1, fun x hx => let ⟨v, a, b⟩ := h2 x hx; ⟨v, a, r.mono s1 b⟩, k2 s1 s2⟩⟩⟩
theorem VwR.dp {d : DRep α} {r : Rep α} (k : DFz d r) (h : VwR R1 R1') : VwR (eDp own d R1) (eFr r R1') := ⟨fun {K F G Ht H σ e} i s ⟨o, σ', h1, h2⟩ => by
  rcases h2 with ⟨a, b⟩ | ⟨x, v, S0, a1, a2, a3, a4, a5⟩
  · obtain ⟨S, k1, k2⟩ := h.to i s b
    exact ⟨S, k1, fun s1 s2 => ⟨o, σ', h1, fun x hx => (by rw [a] at hx; cases hx), k2 s1 s2⟩⟩
  · obtain ⟨S, k1, k2⟩ := h.to i (hideS_sub.trans s) a5
    refine ⟨S0 ++ S, fun b hb => ?_, fun s1 s2 => ⟨o, σ', h1, fun y hy => ?_, k2 s1 fun b hb => s2 b (List.mem_append.mpr (.inr hb))⟩⟩
    · rcases List.mem_append.mp hb with hb | hb
      · exact ⟨(a4 b hb).2, d.ne a3 b hb⟩
      · exact ⟨(k1 b hb).1, let ⟨o, e1, e2⟩ := (k1 b hb).2; ⟨o, (hideS_some e1).2, e2⟩⟩
    · rw [a1] at hy
      cases hy
      refine ⟨v, a2, k a3 s1 fun b hb => ?_⟩
      obtain ⟨o', e1, _⟩ := d.ne a3 b hb
      rw [s2 b (List.mem_append.mpr (.inl hb)), e1, s _ _ e1]⟩
end
end
namespace L2
open PySem PySem.Spec PyProof.Rows
end L2
open PySem PySem.Spec PyProof.Rows L2
section
variable {ν ν' α β γ ε ρ κ : Type} {M : Mx} {R R' : ERep ε} {F : Frm} {G G' H H' : Hp} {σ : Sg} {n : Nat} {own : Frm → Addr → Prop} {rr : RS V ρ} {d : DRep α} {r : Rep α}
theorem tyL_h {K : PySem.W.Frag} {L : Addr} {vs : List V} (h : H L = some (.lst vs)) : tyV K "list" (.ref L) H := .inl ⟨rfl, _, sql_h h⟩
/-- xs.append(y), y new -/
def mAppD (l : Ln ε (List α)) (m : ε → Rs ε α) : ε → Rs ε Unit := fun e => match l.get e with
  | none => .bad
  | some _ => (m e).bind fun a e1 => match l.get e1 with
    | none => .bad
    | some xs => if xs.length < 1000000 then .ok () (l.put (some (xs ++ [a])) (l.put none e1)) else .bad
/-- xs.insert(0, y), y new -/
def mInsD (l : Ln ε (List α)) (m : ε → Rs ε α) : ε → Rs ε Unit := fun e => match l.get e with
  | none => .bad
  | some _ => (m e).bind fun a e1 => match l.get e1 with
    | none => .bad
    | some xs => if xs.length < 1000000 then .ok () (l.put (some (a :: xs)) (l.put none e1)) else .bad
/-- found.setdefault(k, []).append(x) -/
def mSdApp (l : Ln ε (List (List Int × List α))) (mk : ε → Rs ε (List Int)) (mx : ε → Rs ε α) : ε → Rs ε Unit := fun e => match l.get e with
  | none => .bad
  | some _ => (mk e).bind fun k e1 => match l.get e1 with
    | none => .bad
    | some kbs => match mx (l.put none e1) with
      | .ok x _ => if kbs.length < 1000000 ∧ ((dget kbs k).getD []).length < 1000000 then .ok () (l.put (some (dput kbs k ((dget kbs k).getD [] ++ [x]))) (l.put none e1)) else .bad
      | _ => .bad
end
section
variable {X : Cx}
def rSortDI : List V → Hp → VK → Prop := fun vs H Q => ∃ (d : Addr) (kvs : List (Key × V)) (ns : List Int), vs = [V.ref d] ∧ H d = some (.dK kvs) ∧ kvs.map (fun p : Key × V => p.1) = ns.map Sum.inl ∧ kvs.length ≤ 1000000 ∧
  ∀ p : Addr, H p = none → Q (.ref p) (upd H p (.lst ((ns.mergeSort leI).map V.int)))
theorem cr_sortDI (hc : X.calm = true) (hu : X.A.units + 64 < cLine) : CallR X (.builtin "sorted") rSortDI := by
  intro pins s σ H vs us Q I r h
  obtain ⟨d, kvs, ns, rfl, hd, hf, hz, q⟩ := h
  rw [Vals.ref1 r]
  obtain ⟨z, hs, vs0, rel, dof⟩ := dk_of I.hok hd
  obtain ⟨es, ep, ⟨o, ho, hx, hdt⟩, hsz, hes⟩ := dof.raw
  have l2 : kvs.length = vs0.length := KV.length rel
  have l3 : kvs.length = ns.length := by
    have := congrArg List.length hf
    simpa using this
  refine PySem.Calls.call_function_entry kind_sorted plain_sorted entry_sorted (args_sorted1 _) ?_
  unfold Builtin.«sorted»
  refine wpAny_bind (m := checkCount "sorted" 1 1 _) (wpAny_pure ?_)
  refine wpAny_bind (PySem.W.kdu_collect (A := X.A.in1) (kdl_raw hs hx hdt) (I.ok.hd hc) ho (by rw [sizeLine_eq]; omega) fun h' tk acc' kp it => ?_)
  have hl : acc'.toList.length = ns.length := by rw [Array.length_toList, it.1]; omega
  have ei : ∀ (j : Nat) (v : Value), acc'.toList[j]? = some v → ∃ (k : Int) (t : Nat), ns[j]? = some k ∧ v = .int k t := by
    intro j v hj
    obtain ⟨en, hen, hv⟩ := it.2 j v (by rw [← Array.getElem?_toList]; exact hj)
    have hj2 : j < ns.length := hl ▸ (List.getElem?_eq_some_iff.mp hj).1
    have hje : j < es.size := by omega
    have hk : (kvs.map fun p : Key × V => p.1)[j]? = some (Sum.inl ns[j]) := by rw [hf, List.getElem?_map, List.getElem?_eq_getElem hj2]; rfl
    rw [List.getElem?_map] at hk
    obtain ⟨x, hx', e1⟩ := Option.map_eq_some_iff.mp hk
    obtain ⟨u, hu', _⟩ := KV.nth rel hx'
    have h1 := (hes j hje _ _ hu').1
    rw [e1] at h1
    rw [Array.getElem?_eq_getElem hje] at hen
    obtain rfl := Option.some.inj hen
    have h1 : keyIs (Sum.inl ns[j]) es[j].key = true := h1
    rcases keyIs_shape h1 with ⟨i, t, e2, e3⟩ | ⟨x, t, e2, e3⟩
    · cases e2
      exact ⟨ns[j], t, List.getElem?_eq_getElem hj2, by rw [hv, e3]⟩
    · cases e2
  have e : PySem.W.EachIs (fun v (b : Int) => RelV (.int b) v) acc'.toList ns := by
    have gen : ∀ (vs : List Value) (ns : List Int), vs.length = ns.length → (∀ (j : Nat) (v : Value), vs[j]? = some v → ∃ (k : Int) (t : Nat), ns[j]? = some k ∧ v = .int k t) → PySem.W.EachIs (fun v (b : Int) => RelV (.int b) v) vs ns := by
      intro vs
      induction vs with
      | nil => intro ns h1 _; cases ns with
        | nil => exact .nil
        | cons _ _ => simp at h1
      | cons v vs ih => intro ns h1 h2; cases ns with
        | nil => simp at h1
        | cons n ns =>
          obtain ⟨k, t, h3, h4⟩ := h2 0 v rfl
          cases h3
          exact .cons ⟨t, h4⟩ (ih ns (by simpa using h1) fun j w hj => by simpa using h2 (j + 1) w (by simpa using hj))
    exact gen _ _ hl ei
  generalize hvs : acc'.toList = vs at e hl ⊢
  have hvL : vs.length ≤ sizeLine := by rw [hl, sizeLine_eq]; omega
  refine wpAny_bind (wpAny_newList ?_ hvL)
  have hoL : (h'.push (seqObj "list" vs.toArray 0)).get? h'.objs.size = some (seqObj "list" vs.toArray 0) := Heap.get?_push_size _ rfl
  have er' := ints_reads (h := PySem.W.sortingHeap (h'.push (seqObj "list" vs.toArray 0)) h'.objs.size vs) e
  have hal : PySem.W.AllAlike (ns.map PyData.int) := by
    intro d hd d' hd'
    obtain ⟨b, _, rfl⟩ := List.mem_map.mp hd
    obtain ⟨b', _, rfl⟩ := List.mem_map.mp hd'
    rfl
  have S := PySem.W.SortsAt.data (prog := X.prog) (w := X.w) (A := X.A.in1.in1) (s := { s with heap := PySem.W.sortingHeap (h'.push (seqObj "list" vs.toArray 0)) h'.objs.size vs, toks := tk })
    (PySem.W.each_map (R := fun v d => ∃ as, Reads (PySem.W.sortingHeap (h'.push (seqObj "list" vs.toArray 0)) h'.objs.size vs) v d as) PyData.int er') hal (.inr fun d hd => by
      obtain ⟨b, _, rfl⟩ := List.mem_map.mp hd
      exact ⟨(fun z => nomatch z), (fun xs z => nomatch z)⟩) (fun d hd => by
      obtain ⟨b, _, rfl⟩ := List.mem_map.mp hd
      have h2 : X.A.in1.in1.units = X.A.units + 2 := rfl
      have h3 : (PyData.int b).depth = 0 := by simp [PyData.depth]
      omega)
  have eo := PySem.W.sortVals_data false e er' hal
  refine wpAny_bind (wpAny_holding (wpAny_call_entry slot_list_sort ⟨_, hoL, rfl⟩ entry_list_sort (PySem.W.list_sort_vals (s := { s with heap := h'.push (seqObj "list" vs.toArray 0), toks := tk }) hoL S hvL ⟨.none, rfl, ?_⟩) (args_list_sort _)))
  generalize PySem.W.sortVals (PySem.W.dataKind (PySem.W.sortingHeap (h'.push (seqObj "list" vs.toArray 0)) h'.objs.size vs) (ns.map PyData.int)) false vs vs = out at eo ⊢
  have e2 : PySem.W.dataLe false PyData.int = leI := PySem.W.dataLe_int id
  rw [e2] at eo
  obtain ⟨c, hcc⟩ := sortedHeap_at (vs := vs) (out := out.toArray) hoL
  have keep : ∀ b u, s.heap.get? b = some u → (sortedHeap (h'.push (seqObj "list" vs.toArray 0)) h'.objs.size vs out.toArray).get? b = some u := fun b u e => by
    have qk := kp b u e
    have hlt := Heap.lt_size qk
    rw [sortedHeap_old (Nat.ne_of_lt hlt) (by rw [size_push']; exact Nat.lt_succ_of_lt hlt)]
    exact Heap.get?_push_of_some _ qk
  have hfr : H h'.objs.size = none := (I.hok.kept kp).fresh (Nat.le_refl _)
  have new : ObjOk X.prog X.w (upd H h'.objs.size (.lst ((ns.mergeSort leI).map V.int))) (sortedHeap (h'.push (seqObj "list" vs.toArray 0)) h'.objs.size vs out.toArray) h'.objs.size (.lst ((ns.mergeSort leI).map V.int)) :=
    ⟨by rw [List.length_map, List.length_mergeSort, sizeLine_eq]; omega, out, c, ints_each eo, hcc⟩
  refine wpAny_pure ⟨_, rfl, .ref h'.objs.size, _, inv_laid (s := s) I keep (fun b u e => Nat.ne_of_lt (Heap.lt_size (kp b u e))) hfr new, rfl, q _ hfr⟩
end
section
variable {ν ν' α β γ ε ρ κ : Type} {M : Mx} {R R' : ERep ε} {F : Frm} {G G' H H' : Hp} {σ : Sg} {n : Nat} {own : Frm → Addr → Prop} {rr : RS V ρ} {d : DRep α} {r : Rep α} {K : PySem.W.Frag}
def gSortKI {β : Type} (kbs : List (Int × β)) : Option (List Int) := if kbs.length ≤ 1000000 then some ((keysOf kbs).mergeSort leI) else none
theorem v_sortDI {r : Rep β} : VF K rSortDI (aOne (rd (oDI r))) (oL rI) gSortKI := fun G H v a b Q s ⟨x, h0, L, ho, h1, h2, kvs, h3, h4⟩ hg k => by
  subst h0 h1 h3
  obtain ⟨hz, rfl⟩ := of_ite hg
  have gen : ∀ {kvs : List (Key × V)} {a : List (Int × β)}, DR kInt r K G kvs a → kvs.map (fun p : Key × V => p.1) = (keysOf a).map Sum.inl := fun h => by
    unfold DR at h
    induction h with
    | nil => rfl
    | cons h _ ih =>
      unfold keysOf at ih ⊢
      rw [List.map_cons, List.map_cons, List.map_cons, ih]
      congr 1
      exact h.1
  exact ⟨L, kvs, keysOf a, rfl, h2, gen h4, by rw [A2.length h4]; exact hz, fun p hp => k p _ G _ (.own s hp) hp (s.no hp) upd_same ⟨_, rfl, .ofMap fun _ _ => rfl⟩⟩
/-- x[0].append(None): then x is some list -/
def mSp1 (l : Ln ε (Option (List (List α)))) : ε → So ε ρ := fun e => match l.get e with
  | some (some (a :: as)) => if a.length < 1000000 ∧ as.length < 1000000 then .nx (l.put (some none) (l.put none e)) else .bad
  | _ => .bad
/-- x.append([]): then x is done with -/
def mSp2 (l : Ln ε (Option (List α))) : ε → So ε ρ := fun e => match l.get e with
  | some none => .nx (l.put none e)
  | _ => .bad
/-- what may be spoilt is not -/
def gSp (o : Option α) : Option α := o
end
namespace PySem
open Sem (wp)
end PySem
open PySem PySem.Spec PyProof.Rows L2
namespace L2
open PySem PySem.Spec PyProof.Rows
end L2
open PySem PySem.Spec PyProof.Rows L2
section
variable {ε α β ρ : Type} {e : ε} {N C B : ε → Prop} {T : ρ → ε → Prop}
theorem rp_view {m : ε → Rs ε α} {Q : α → ε → Prop} : RsP (mView m e) Q = RsP (m e) fun a _ => Q a e := by
  unfold mView
  simp only [RsP_eq]
  cases m e <;> rfl
theorem rp_appD {l : Ln ε (List α)} {m : ε → Rs ε α} {Q : Unit → ε → Prop} : RsP (mAppD l m e) Q = OpP (l.get e) fun _ => RsP (m e) fun a e1 => OpP (l.get e1) fun xs => xs.length < 1000000 ∧ Q () (l.put (some (xs ++ [a])) (l.put none e1)) := by
  unfold mAppD
  simp only [RsP_eq, OpP_eq]
  cases l.get e with
  | none => rfl
  | some x =>
    simp only [rp_bind_0, OpP0]
    congr; funext a e1
    cases l.get e1 with
    | none => rfl
    | some xs =>
      dsimp only
      by_cases h : xs.length < 1000000
      · rw [if_pos h]; simp only [h, true_and]; rfl
      · rw [if_neg h]; simp only [h, false_and]; rfl
theorem rp_insD {l : Ln ε (List α)} {m : ε → Rs ε α} {Q : Unit → ε → Prop} : RsP (mInsD l m e) Q = OpP (l.get e) fun _ => RsP (m e) fun a e1 => OpP (l.get e1) fun xs => xs.length < 1000000 ∧ Q () (l.put (some (a :: xs)) (l.put none e1)) := by
  unfold mInsD
  simp only [RsP_eq, OpP_eq]
  cases l.get e with
  | none => rfl
  | some x =>
    simp only [rp_bind_0, OpP0]
    congr; funext a e1
    cases l.get e1 with
    | none => rfl
    | some xs =>
      dsimp only
      by_cases h : xs.length < 1000000
      · rw [if_pos h]; simp only [h, true_and]; rfl
      · rw [if_neg h]; simp only [h, false_and]; rfl
theorem rp_sdApp {l : Ln ε (List (List Int × List α))} {mk : ε → Rs ε (List Int)} {mx : ε → Rs ε α} {Q : Unit → ε → Prop} : RsP (mSdApp l mk mx e) Q = OpP (l.get e) fun _ => RsP (mk e) fun k e1 => OpP (l.get e1) fun kbs => RsP (mx (l.put none e1)) fun x _ =>
    (kbs.length < 1000000 ∧ ((dget kbs k).getD []).length < 1000000) ∧ Q () (l.put (some (dput kbs k ((dget kbs k).getD [] ++ [x]))) (l.put none e1)) := by
  unfold mSdApp
  simp only [RsP_eq, OpP_eq]
  cases l.get e with
  | none => rfl
  | some x =>
    simp only [rp_bind_0, OpP0]
    congr; funext k e1
    cases l.get e1 with
    | none => rfl
    | some kbs =>
      dsimp only
      cases mx (l.put none e1) with
      | ok x e' =>
        dsimp only
        by_cases h : kbs.length < 1000000 ∧ ((dget kbs k).getD []).length < 1000000
        · rw [if_pos h]; exact propext ⟨fun q => ⟨h, q⟩, fun q => q.2⟩
        · rw [if_neg h]; exact propext ⟨fun q => q.elim, fun q => absurd q.1 h⟩
      | ex c e' => rfl
      | bad => rfl
def SpOk (xs : List (List α)) : Prop := ∃ a as, xs = a :: as ∧ a.length < 1000000 ∧ as.length < 1000000
theorem sp_sp1 {l : Ln ε (Option (List (List α)))} : SoP (mSp1 l e : So ε ρ) N C B T = OpP (l.get e) fun o => OpP o fun xs => SpOk xs ∧ N (l.put (some none) (l.put none e)) := by
  unfold mSp1
  simp only [SoP_eq, OpP_eq]
  cases l.get e with
  | none => rfl
  | some o =>
    cases o with
    | none => rfl
    | some xs =>
      cases xs with
      | nil => exact propext ⟨fun h => h.elim, fun ⟨⟨a, as, h, _⟩, _⟩ => nomatch h⟩
      | cons a as =>
        dsimp only
        by_cases h : a.length < 1000000 ∧ as.length < 1000000
        · rw [if_pos h]; exact propext ⟨fun q => ⟨⟨a, as, rfl, h⟩, q⟩, fun q => q.2⟩
        · rw [if_neg h]; exact propext ⟨fun q => q.elim, fun ⟨⟨a', as', h1, h2⟩, _⟩ => by cases h1; exact absurd h2 h⟩
theorem sp_sp2 {l : Ln ε (Option (List α))} : SoP (mSp2 l e : So ε ρ) N C B T = OpP (l.get e) fun o => o = none ∧ N (l.put none e) := by
  unfold mSp2
  simp only [SoP_eq, OpP_eq]
  cases l.get e with
  | none => rfl
  | some o =>
    cases o with
    | none => exact propext ⟨fun h => ⟨rfl, h⟩, fun h => h.2⟩
    | some xs => exact propext ⟨fun h => h.elim, fun h => nomatch h.1⟩
end
section
variable {X : Cx}
/-- the least of some faces -/
def minF : List (List Int) → List Int
  | [] => []
  | x :: xs => xs.foldl (fun a y => if y < a then y else a) x
end
section
variable {ε β : Type} {M : Mx} {R : ERep ε} {K : PySem.W.Frag}
def gMinT (fs : List (List Int)) : Option (List Int) := if fs = [] then none else some (minF fs)
def gBits (i : Int) : Option Int := some (Builtin.Int.intBits i : Nat)
end
section
variable {ν α β γ ε ρ : Type} {M : Mx} {R R' : ERep ε} {K : PySem.W.Frag} {F : Frm} {G G' H H' : Hp} {σ : Sg} {n : Nat} {l : Ln ε α} {own : Frm → Addr → Prop} {rr : RS V ρ}
def TGB (M : Mx) (R : ERep ε) (g : TG) (j : IR V α) (vs : List Nat) (pt : α → ε → ε) : Prop := ∀ F G H σ e v a, IV F G H → R.rel M.K F G H σ e → j M.K G H v a → ∀ Q, (∀ σ', wipe σ' vs = wipe σ vs → R.rel M.K F G H σ' (pt a e) → Q σ' H) → g v σ H Q
theorem b_unl3 {g g' g'' : TG} {r : Rep α} {r' : Rep β} {r'' : Rep γ} {vs : List Nat} {p : α → ε → ε} {p' : β → ε → ε} {p'' : γ → ε → ε} (h : TGN M R g r vs p) (h' : TGN M R g' r' vs p') (h'' : TGN M R g'' r'' vs p'') :
    TGB M R (gUnl M.K 3 (gCons g (gCons g' (gCons g'' gNil)))) (rd (oL3 r r' r'')) vs (p3 p p' p'') := fun F G H σ e v a i hR hr Q k => by
  obtain ⟨L, ho, rfl, hg, x, y, z, rfl, hx, hy, hz⟩ := hr
  refine ⟨L, _, rfl, .inl (.inl hg), rfl, x, _, rfl, h F G H σ e x a.1 i hR hx _ fun σ1 w1 R1 => ⟨y, _, rfl, h' F G H σ1 _ y a.2.1 i R1 hy _ fun σ2 w2 R2 => ⟨z, _, rfl, h'' F G H σ2 _ z a.2.2 i R2 hz _ fun σ3 w3 R3 => ⟨rfl, k σ3 (w3.trans (w2.trans w1)) R3⟩⟩⟩⟩
theorem s_asgB {t : TE} {g : TG} {j : IR V α} {vs : List Nat} {m : ε → Rs ε α} {pt : α → ε → ε} (h : EX M R t (is j) m) (hg : TGB M R g j vs pt) : SX M R rr (tAsg t g) (mAsgN m pt) := fun F G H σ e i hR D p =>
  h F G H σ e i hR _ (p.so fun v a e1 G1 H1 H1' i1 s1 hr R1 p1 => by
    rw [hr.2] at R1
    exact hg F G1 H1 σ e1 v a i1 R1 hr.1 _ fun σ' _ R2 => p1 σ' G1 H1 i1 .refl R2)
def rngD (i j : Int) : List Int := (List.range (i - j).toNat).map fun (k : Nat) => i - (k : Int)
def mRngD (m : ε → Rs ε (Int × Int × Int)) : ε → Rs ε (List Int) := fun e => (m e).bind fun n e1 => if bigI n.1 = true ∧ bigI n.2.1 = true ∧ n.2.2 = -1 then .ok (rngD n.1 n.2.1) e1 else .bad
def srtT (fs : List (List Int)) : List (List Int) := fs.mergeSort tLe
def gSortTp (fs : List (List Int)) : Option (List (List Int)) := if fs.length ≤ 1000000 then some (srtT fs) else none
def gLkd (l : Ln ε γ) (x : γ) (e : ε) : Option ε := match l.get e with
  | none => none
  | some _ => some (l.put (some x) (l.put none e))
def mLockS (l : Ln ε γ) (m : ε → So ε ρ) : ε → So ε ρ := fun e => match l.get e with
  | none => .bad
  | some x => match m (l.put (some x) e) with
    | .nx e1 => match gLkd l x e1 with | some e2 => .nx e2 | none => .bad
    | .ct e1 => match gLkd l x e1 with | some e2 => .ct e2 | none => .bad
    | .bk e1 => match gLkd l x e1 with | some e2 => .bk e2 | none => .bad
    | _ => .bad
/-- only this one stands still; what stood still stays as it is -/
def _root_.Ws.Frm.lk2 (F : Frm) (L : Addr) (ho : HO) : Frm := { F with X := fun b => match F.X b with | some o => some o | none => F.Y b, Y := fun b => if b = L then some ho else none }
theorem lk2_X {F : Frm} {L b : Addr} {ho : HO} : (F.lk2 L ho).X b = none ↔ F.X b = none ∧ F.Y b = none := by
  show (match F.X b with | some o => some o | none => F.Y b) = none ↔ _
  cases F.X b with
  | none => simp
  | some o => simp
theorem lk2_Y {F : Frm} {L b : Addr} {ho : HO} : (F.lk2 L ho).Y b = none ↔ b ≠ L := by
  show (if b = L then some ho else none) = none ↔ _
  by_cases z : b = L
  · rw [if_pos z]; simp [z]
  · rw [if_neg z]; simp [z]
class OwnP2 (own : Frm → Addr → Prop) : Prop where
  lk : ∀ {F L D o}, own F L → L ≠ D → own (F.lk2 D o) L
  ul : ∀ {F L D o}, own (F.lk2 D o) L → L ≠ D ∧ own F L
instance ownN_p2 : OwnP2 ownN := ⟨fun h n => ⟨h.1, lk2_X.mpr ⟨h.2.1, h.2.2⟩, lk2_Y.mpr n⟩, fun h => ⟨lk2_Y.mp h.2.2, h.1, (lk2_X.mp h.2.1).1, (lk2_X.mp h.2.1).2⟩⟩
instance ownI_p2 {k : Nat} : OwnP2 (ownI k) := ⟨fun h n => ⟨h.1, lk2_X.mpr ⟨h.2.1, h.2.2⟩, lk2_Y.mpr n⟩, fun h => ⟨lk2_Y.mp h.2.2, h.1, (lk2_X.mp h.2.1).1, (lk2_X.mp h.2.1).2⟩⟩
instance ownW_p2 : OwnP2 ownW := ⟨fun h n => ⟨h.1, lk2_X.mpr ⟨h.2.1, h.2.2⟩, lk2_Y.mpr n⟩, fun h => ⟨lk2_Y.mp h.2.2, h.1, (lk2_X.mp h.2.1).1, (lk2_X.mp h.2.1).2⟩⟩
structure LkR2 (R : ERep ε) : Prop where
  lk : ∀ {K F G H σ e L ho}, R.rel K F G (hide H L) σ e → R.rel K (F.lk2 L ho) G H σ e
  ul : ∀ {K F G H σ e L ho}, R.rel K (F.lk2 L ho) G H σ e → R.rel K F G (hide H L) σ e
section
variable {R1 R1' : ERep ε} {own own' : Frm → Addr → Prop} [op : OwnP own] [op2 : OwnP2 own] {q : ORep α} {d : DRep α} {r : Rep α}
theorem LkR2.nil : LkR2 eNil := ⟨fun h => h, fun h => h⟩
theorem LkR2.fr (h : LkR2 R) : LkR2 (eFr r R) := ⟨fun ⟨o, σ', h1, h2, h3⟩ => ⟨o, σ', h1, h2, h.lk h3⟩, fun ⟨o, σ', h1, h2, h3⟩ => ⟨o, σ', h1, h2, h.ul h3⟩⟩
theorem LkR2.dp (h : LkR2 R) : LkR2 (eDp own d R) := by
  refine ⟨?_, ?_⟩
  · rintro K F G H σ e D o' ⟨o, σ', h1, h2⟩
    refine ⟨o, σ', h1, ?_⟩
    rcases h2 with ⟨a, b⟩ | ⟨x, v, S, a1, a2, a3, a4, a5⟩
    · exact .inl ⟨a, h.lk b⟩
    · exact .inr ⟨x, v, S, a1, a2, d.hm hide_sub a3, fun b hb => ⟨op2.lk (a4 b hb).1 (fun z => d.nn a3 b hb (by rw [z]; exact hide_same)), (a4 b hb).2⟩, h.lk (by rw [← hideS_hide]; exact a5)⟩
  · rintro K F G H σ e D o' ⟨o, σ', h1, h2⟩
    refine ⟨o, σ', h1, ?_⟩
    rcases h2 with ⟨a, b⟩ | ⟨x, v, S, a1, a2, a3, a4, a5⟩
    · exact .inl ⟨a, h.ul b⟩
    · have n : ∀ b ∈ S, b ≠ D := fun b hb => (op2.ul (a4 b hb).1).1
      exact .inr ⟨x, v, S, a1, a2, d.loc (fun b hb => hide_ne (n b hb)) a3, fun b hb => ⟨(op2.ul (a4 b hb).1).2, (a4 b hb).2⟩, by rw [hideS_hide]; exact h.ul a5⟩
end
structure Sw2 (R R' : ERep ε) (n : Nat) (q' : ORep α) (l : Ln ε α) : Prop where
  to : ∀ {K F G H σ e L ho a}, R.rel K F G (hide H L) σ (l.put none e) → σ[n]? = some (some (.ref L)) → q'.rel K G ho a → R'.rel K (F.lk2 L ho) G H σ (l.put (some a) e)
  bk : ∀ {K F G H σ e L ho}, R'.rel K (F.lk2 L ho) G H σ e → R.rel K F G (hide H L) σ (l.put none e)
  at' : PrAt R' n q' l
section
variable {R1 R1' : ERep ε} {own own' : Frm → Addr → Prop} [op : OwnP own] [op' : OwnP own'] [op2 : OwnP2 own'] {q : ORep α} {q' : ORep β} {d' : DRep β} {r' : Rep β} {l : Ln ε α}
theorem Sw2.z {q1 : ORep α} (h : LkR2 R) : Sw2 (eOwP own q R) (ePr q1 R) 0 q1 Ln.z := by
  refine ⟨?_, ?_, PrAt.z⟩
  · rintro K F G H σ e L ho a ⟨o, σ', rfl, ⟨h1, h2⟩ | ⟨x, L', ho', a1, a2, a3, a4, a5, a6, a7⟩⟩ hs hq
    · exact ⟨o, σ', rfl, fun x hx => ⟨L, ho, by simpa using hs, if_pos rfl, by cases hx; exact hq⟩, h.lk h2⟩
    · cases a1
  · rintro K F G H σ e L ho ⟨o, σ', rfl, h1, h2⟩
    exact ⟨o, σ', rfl, .inl ⟨rfl, h.ul h2⟩⟩
end
def mAt0App (l : Ln ε (List (List α))) (mx : ε → Rs ε α) : ε → Rs ε Unit := fun e => match l.get e with
  | some (x :: xs) => match mx e with
    | .ok a _ => if x.length < 1000000 ∧ xs.length < 1000000 then .ok () (l.put (some ((x ++ [a]) :: xs)) (l.put none e)) else .bad
    | _ => .bad
  | _ => .bad
theorem rp_at0App {l : Ln ε (List (List α))} {e : ε} {mx : ε → Rs ε α} {Q : Unit → ε → Prop} : RsP (mAt0App l mx e) Q = OpP (l.get e) fun o => RsP (mx e) fun a _ => (∃ x xs, o = x :: xs ∧ (x.length < 1000000 ∧ xs.length < 1000000) ∧ Q () (l.put (some ((x ++ [a]) :: xs)) (l.put none e))) := by
  unfold mAt0App
  simp only [RsP_eq, OpP_eq]
  cases l.get e with
  | none => rfl
  | some o =>
    cases o with
    | nil =>
      refine propext ⟨fun h => h.elim, fun h => ?_⟩
      cases hm : mx e with
      | bad => rw [hm] at h; exact h
      | ex c e' => rw [hm] at h; exact h
      | ok y e' => rw [hm] at h; obtain ⟨x, xs, z, _⟩ := h; cases z
    | cons x xs =>
      dsimp only
      cases mx e with
      | bad => rfl
      | ex c e' => rfl
      | ok y e' =>
        dsimp only
        by_cases hz : x.length < 1000000 ∧ xs.length < 1000000
        · rw [if_pos hz]; exact propext ⟨fun q => ⟨x, xs, rfl, hz, q⟩, fun ⟨_, _, z, _, q⟩ => by cases z; exact q⟩
        · rw [if_neg hz]; exact propext ⟨fun q => q.elim, fun ⟨_, _, z, q, _⟩ => by cases z; exact absurd q hz⟩
theorem rp_rngD {m : ε → Rs ε (Int × Int × Int)} {e : ε} {Q : List Int → ε → Prop} : RsP (mRngD m e) Q = RsP (m e) fun n e1 => (bigI n.1 = true ∧ bigI n.2.1 = true ∧ n.2.2 = -1) ∧ Q (rngD n.1 n.2.1) e1 := by
  unfold mRngD
  simp only [RsP_eq, rp_bind_0]
  congr; funext n e1
  by_cases h : bigI n.1 = true ∧ bigI n.2.1 = true ∧ n.2.2 = -1
  · rw [if_pos h]; exact propext ⟨fun q => ⟨h, q⟩, fun q => q.2⟩
  · rw [if_neg h]; exact propext ⟨fun q => q.elim, fun q => absurd q.1 h⟩
theorem sp_lockS {l : Ln ε γ} {m : ε → So ε ρ} {e : ε} {N C B : ε → Prop} {T : ρ → ε → Prop} : SoP (mLockS l m e) N C B T = OpP (l.get e) fun x => SoP (m (l.put (some x) e)) (fun e1 => OpP (l.get e1) fun _ => N (l.put (some x) (l.put none e1))) (fun e1 => OpP (l.get e1) fun _ => C (l.put (some x) (l.put none e1))) (fun e1 => OpP (l.get e1) fun _ => B (l.put (some x) (l.put none e1))) (fun _ _ => False) := by
  unfold mLockS gLkd
  simp only [SoP_eq, OpP_eq]
  cases l.get e with
  | none => rfl
  | some x =>
    dsimp only [OpP0]
    cases m (l.put (some x) e) with
    | bad => rfl
    | ex c e1 => rfl
    | rt a e1 => rfl
    | nx e1 => cases z : l.get e1 <;> simp only [SoP0, z]
    | bk e1 => cases z : l.get e1 <;> simp only [SoP0, z]
    | ct e1 => cases z : l.get e1 <;> simp only [SoP0, z]
end
section
variable {α β : Type} {K : PySem.W.Frag}
def dputsT (kbs more : List (List Int × β)) : List (List Int × β) := more.foldl (fun acc kv => dput acc kv.1 kv.2) kbs
def gDictPT (rows : List (List Int × β)) : Option (List (List Int × β)) := some (dputsT [] rows)
def gKeysT (kbs : List (List Int × β)) : Option (List (List Int)) := if kbs.length ≤ 1000000 then some (keysOf kbs) else none
end
section
variable {α ε : Type} {M : Mx} {R : ERep ε} {K : PySem.W.Frag}
theorem v_ixTZ {r : Rep α} : VR2 K (rIxT K) (ir (rTZ r)) (ir rI) r gIx := fun G H v w a b c Q s ⟨L, o, vs, h1, h2, h3, h4⟩ hi hg k => by
  subst h1; cases hi
  obtain ⟨x, hx, hr⟩ := h4.at hg
  exact ⟨L, vs, b, x, rfl, rfl, .inl (.inr ⟨o, s _ _ h2⟩), hx, k _ G H (.refl s) hr⟩
theorem x_iTZ {t : TE} {r : Rep α} {m : ε → Rs ε (List α)} (h : EX M R t (fz (rTZ r)) m) : EX M R (iTup M.K t) (walkS r) m := fun F G H σ e i hR Q p => by
  refine h F G H σ e i hR _ ?_
  revert p
  cases m e with
  | ok a e' =>
    rintro p v G' H' H1 i1 s1 ⟨⟨L, o, vs, rfl, hg, _, ha⟩, rfl⟩ R1
    refine ⟨L, rfl, ⟨vs, .inl (.inr ⟨o, i1.gh _ _ hg⟩)⟩, p _ G' _ _ i1 s1 ⟨fun k G2 H2 i2 s2 => ?_, rfl⟩ R1⟩
    have q : SqT M.K H2 L vs := .inl (.inr ⟨o, i2.gh _ _ (s2 _ _ hg)⟩)
    refine ⟨fun hk => ⟨vs, q, by rw [ha.length]; exact hk⟩, fun x hx => ?_⟩
    obtain ⟨v, hv, hr⟩ := ha.get hx
    refine ⟨⟨vs, v, q, hv⟩, fun v' H'' hy => ?_⟩
    obtain ⟨rfl, hy⟩ := hy
    have := hy vs q
    rw [hv] at this
    cases this
    exact ⟨G2, .refl i2.gh, r.mono s2 hr⟩
  | ex c e' => exact id
  | bad => exact id
end
namespace L2
open PySem PySem.Spec PyProof.Rows
end L2
open PySem PySem.Spec PyProof.Rows L2
section
variable {ν ν' α β γ ε ρ κ : Type} {M : Mx} {R R' : ERep ε} {F : Frm} {G G' H H' : Hp} {σ : Sg} {n : Nat} {own : Frm → Addr → Prop} {rr : RS V ρ} {K : PySem.W.Frag}
def gPopK [DecidableEq κ] (kbs : List (κ × β)) (k : κ) : Option (β × List (κ × β)) := (dget kbs k).map fun b => (b, ddel kbs k)
/-- above.pop(k) -/
def mPopD (l : Ln ε (List (List Int × β))) (mk : ε → Rs ε (List Int)) : ε → So ε ρ := fun e => match l.get e with
  | none => .bad
  | some _ => (mk e).so fun k e1 => match l.get e1 with
    | none => .bad
    | some kbs => if (dget kbs k).isSome = true then .nx (l.put (some (ddel kbs k)) (l.put none e1)) else .bad
/-- above[k1].pop(k2) -/
def mSubPop (l : Ln ε (List (List Int × List (List Int × β)))) (m1 m2 : ε → Rs ε (List Int)) : ε → So ε ρ := fun e => match l.get e with
  | none => .bad
  | some _ => (m1 e).so fun k1 e1 => match l.get e1 with
    | none => .bad
    | some kbs => match dget kbs k1 with
      | none => .bad
      | some b => match m2 e1 with
        | .ok k2 _ => if (dget b k2).isSome = true then .nx (l.put (some (dput kbs k1 (ddel b k2))) (l.put none e1)) else .bad
        | _ => .bad
/-- found[k1][k2] = v -/
def mPut2 (l : Ln ε (List (List Int × List (List Int × β)))) (m1 m2 : ε → Rs ε (List Int)) (mv : ε → Rs ε β) : ε → So ε ρ := fun e => (mv e).so fun y e0 => match l.get e0 with
  | none => .bad
  | some _ => (m1 e0).so fun k1 e1 => match l.get e1 with
    | none => .bad
    | some kbs => match dget kbs k1 with
      | none => .bad
      | some b => match m2 e1 with
        | .ok k2 _ => if b.length < 1000000 then .nx (l.put (some (dput kbs k1 (dput b k2 y))) (l.put none e1)) else .bad
        | _ => .bad
end
section
variable {α β ε : Type} {M : Mx} {R : ERep ε} {n : Nat}
def mDictDD (l : Ln ε (List Int)) (it : ε → Rs ε (List (List Int))) : ε → Rs ε (List (List Int × List (List Int × β))) := fun e => (it e).bind fun fs e1 => if fs.length ≤ 1000000 ∧ fs.Nodup then .ok (fs.map fun f => (f, [])) e1 else .bad
/-- the rows that are laid: the pair, the dict, the key -/
def DDRow (K : PySem.W.Frag) (H1 G H : Hp) (r : Addr × Addr × V) (f : List Int) : Prop := G r.1 = some (.tup [r.2.2, .ref r.2.1]) ∧ (rT rI).rel K G r.2.2 f ∧ H r.2.1 = some (.dT []) ∧ G r.2.1 = none ∧ H1 r.2.1 = none
theorem DDRow.up {K : PySem.W.Frag} {H1 G H G' H' : Hp} {r : Addr × Addr × V} {f : List Int} (s : Sub G G') (s' : Sub H H') (nw : ∀ b, H b ≠ none → G' b ≠ none → G b ≠ none) (h : DDRow K H1 G H r f) : DDRow K H1 G' H' r f :=
  ⟨s _ _ h.1, (rT rI).mono s h.2.1, s' _ _ h.2.2.1, (by
    cases z : G' r.2.1 with
    | none => rfl
    | some o => exact absurd h.2.2.2.1 (nw _ (by rw [h.2.2.1]; intro z; cases z) (by rw [z]; intro z; cases z))), h.2.2.2.2⟩
theorem DDRow.ne {K : PySem.W.Frag} {H1 G H : Hp} {L : Addr} {vs : List V} {o : HO} {r : Addr × Addr × V} {f : List Int} (hL : H L = some (.lst vs)) (h : DDRow K H1 G H r f) : DDRow K H1 G (upd H L o) r f :=
  ⟨h.1, h.2.1, by rw [upd_ne (fun z => by rw [← z] at hL; rw [h.2.2.1] at hL; cases hL)]; exact h.2.2.1, h.2.2.2.1, h.2.2.2.2⟩
end
section
variable {α β ε : Type} {M : Mx} {R : ERep ε}
def gSortFK (kbs : List (List Int × β)) : Option (List (List Int)) := if kbs.length ≤ 1000000 ∧ (∀ f ∈ keysOf kbs, f.length ≤ 1000000) then some (srtF (keysOf kbs)) else none
end
section
variable {ν α β γ ε ρ ι κ : Type} {M : Mx} {R R' : ERep ε} {F : Frm} {G G' H H' : Hp} {σ : Sg} {n : Nat} {own : Frm → Addr → Prop} {rr : RS V ρ} {K : PySem.W.Frag}
/-- the first name's value stays -/
def eHd (R : ERep ε) : ERep ε := ⟨fun K F G H σ e => R.rel K F G H σ e ∧ ∃ L, σ.head? = some (some (.ref L)) ∧ F.ws.head? = some L, fun g h n ⟨a, b⟩ => ⟨R.mono g h n a, b⟩, fun ⟨a, b⟩ => ⟨R.lock a, b⟩, fun ⟨a, b⟩ => ⟨R.unlock a, b⟩⟩
theorem head_set {σ : Sg} {x : Option V} : (σ.set (n + 1) x).head? = σ.head? := by cases σ <;> rfl
theorem FrAt.hd {r : Rep α} {l : Ln ε α} (h : FrAt R (n + 1) r l) : FrAt (eHd R) (n + 1) r l :=
  ⟨fun ⟨a, _⟩ x => h.rd a x, fun ⟨a, b⟩ x => ⟨h.wr a x, by rw [head_set]; exact b⟩, fun ⟨a, b⟩ => ⟨h.kl a, b⟩, fun ⟨a, b⟩ => ⟨h.wn a, by rw [head_set]; exact b⟩, fun ⟨a, b⟩ s ⟨c, d⟩ => ⟨h.rs a s c, by rw [head_set] at d; exact d⟩⟩
theorem OwAt.hd {q : ORep α} {l : Ln ε α} (h : OwAt R (n + 1) own q l) : OwAt (eHd R) (n + 1) own q l :=
  ⟨fun ⟨a, b⟩ x => let ⟨L, ho, c1, c2, c3, c4, c5, c6⟩ := h.rd a x; ⟨L, ho, c1, c2, c3, c4, c5, c6, b⟩, fun ⟨a, b⟩ c1 c2 c3 c4 c5 => ⟨h.bk a c1 c2 c3 c4 c5, b⟩, fun ⟨a, b⟩ c1 c2 c3 c4 => ⟨h.wr a c1 c2 c3 c4, by rw [head_set]; exact b⟩, fun ⟨a, b⟩ => ⟨h.kl a, b⟩⟩
theorem BoAt.hd {q : ORep α} {l : Ln ε α} (h : BoAt R n q l) : BoAt (eHd R) n q l := ⟨fun ⟨a, _⟩ x => h.rd a x⟩
theorem DpAt.hd {d : DRep α} {l : Ln ε α} (h : DpAt R (n + 1) own d l) : DpAt (eHd R) (n + 1) own d l :=
  ⟨fun ⟨a, b⟩ x => let ⟨v, S, c1, c2, c3, c4⟩ := h.rd a x; ⟨v, S, c1, c2, c3, c4, b⟩, fun ⟨a, b⟩ c1 c2 c3 => ⟨h.bk a c1 c2 c3, b⟩, fun ⟨a, b⟩ c1 c2 => ⟨h.wr a c1 c2, by rw [head_set]; exact b⟩, fun ⟨a, b⟩ => ⟨h.kl a, b⟩⟩
theorem VwR.hd (h : VwR R R') : VwR (eHd R) R' := ⟨fun i s ⟨a, _⟩ => h.to i s a⟩
/-- what is a reference, its own address among its parts -/
def DHd (d : DRep ι) : Prop := ∀ {K G H S v a}, d.rel K G H S v a → ∃ L, v = .ref L ∧ L ∈ S
theorem dh_D {d : DRep β} : DHd (dD d) := fun ⟨L, S', kvs, h1, h2, _⟩ => ⟨L, h1, (h2 L).mpr (.inl rfl)⟩
theorem dh_L {d : DRep β} : DHd (dL d) := fun ⟨L, S', vs, h1, h2, _⟩ => ⟨L, h1, (h2 L).mpr (.inl rfl)⟩
end
section
variable {α β γ ε ρ : Type} {M : Mx} {R : ERep ε}
theorem sp_popD {l : Ln ε (List (List Int × β))} {mk : ε → Rs ε (List Int)} {e : ε} {N C B : ε → Prop} {T : ρ → ε → Prop} : SoP (mPopD l mk e : So ε ρ) N C B T = OpP (l.get e) fun _ => RsP (mk e) fun k e1 => OpP (l.get e1) fun kbs => (dget kbs k).isSome = true ∧ N (l.put (some (ddel kbs k)) (l.put none e1)) := by
  unfold mPopD
  simp only [SoP_eq, OpP_eq, RsP_eq]
  cases l.get e with
  | none => rfl
  | some x =>
    simp only [OpP0]
    cases mk e with
    | bad => rfl
    | ex c e1 => rfl
    | ok k e1 =>
      show SoP0 (match l.get e1 with | none => So.bad | some kbs => if (dget kbs k).isSome = true then So.nx (l.put (some (ddel kbs k)) (l.put none e1)) else So.bad) N C B T = _
      show _ = OpP0 (l.get e1) _
      cases l.get e1 with
      | none => rfl
      | some kbs =>
        show SoP0 (if (dget kbs k).isSome = true then So.nx (l.put (some (ddel kbs k)) (l.put none e1)) else So.bad) N C B T = ((dget kbs k).isSome = true ∧ _)
        cases (dget kbs k).isSome with
        | true => exact propext ⟨fun q => ⟨rfl, q⟩, fun q => q.2⟩
        | false => exact propext ⟨fun q => q.elim, fun q => nomatch q.1⟩
theorem sp_subPop {l : Ln ε (List (List Int × List (List Int × β)))} {m1 m2 : ε → Rs ε (List Int)} {e : ε} {N C B : ε → Prop} {T : ρ → ε → Prop} : SoP (mSubPop l m1 m2 e : So ε ρ) N C B T = OpP (l.get e) fun _ => RsP (m1 e) fun k1 e1 => OpP (l.get e1) fun kbs => OpP (dget kbs k1) fun b => RsP (m2 e1) fun k2 _ =>
    (dget b k2).isSome = true ∧ N (l.put (some (dput kbs k1 (ddel b k2))) (l.put none e1)) := by
  unfold mSubPop
  simp only [SoP_eq, OpP_eq, RsP_eq]
  cases l.get e with
  | none => rfl
  | some x =>
    simp only [OpP0]
    cases m1 e with
    | bad => rfl
    | ex c e1 => rfl
    | ok k e1 =>
      show SoP0 (match l.get e1 with | none => So.bad | some kbs => _) N C B T = _
      show _ = OpP0 (l.get e1) _
      cases l.get e1 with
      | none => rfl
      | some kbs =>
        simp only [OpP0]
        cases dget kbs k with
        | none => rfl
        | some b =>
          simp only [OpP0]
          cases m2 e1 with
          | bad => rfl
          | ex c e' => rfl
          | ok k2 e' =>
            show SoP0 (if (dget b k2).isSome = true then So.nx (l.put (some (dput kbs k (ddel b k2))) (l.put none e1)) else So.bad) N C B T = ((dget b k2).isSome = true ∧ _)
            cases (dget b k2).isSome with
            | true => exact propext ⟨fun q => ⟨rfl, q⟩, fun q => q.2⟩
            | false => exact propext ⟨fun q => q.elim, fun q => nomatch q.1⟩
theorem sp_put2 {l : Ln ε (List (List Int × List (List Int × β)))} {m1 m2 : ε → Rs ε (List Int)} {mv : ε → Rs ε β} {e : ε} {N C B : ε → Prop} {T : ρ → ε → Prop} : SoP (mPut2 l m1 m2 mv e : So ε ρ) N C B T = RsP (mv e) fun y e0 => OpP (l.get e0) fun _ => RsP (m1 e0) fun k1 e1 => OpP (l.get e1) fun kbs => OpP (dget kbs k1) fun b => RsP (m2 e1) fun k2 _ =>
    b.length < 1000000 ∧ N (l.put (some (dput kbs k1 (dput b k2 y))) (l.put none e1)) := by
  unfold mPut2
  simp only [SoP_eq, OpP_eq, RsP_eq]
  cases mv e with
  | bad => rfl
  | ex c e1 => rfl
  | ok y e0 =>
    show SoP0 (match l.get e0 with | none => So.bad | some _ => _) N C B T = OpP0 (l.get e0) _
    cases l.get e0 with
    | none => rfl
    | some x =>
      simp only [OpP0]
      cases m1 e0 with
      | bad => rfl
      | ex c e1 => rfl
      | ok k e1 =>
        show SoP0 (match l.get e1 with | none => So.bad | some kbs => _) N C B T = OpP0 (l.get e1) _
        cases l.get e1 with
        | none => rfl
        | some kbs =>
          simp only [OpP0]
          cases dget kbs k with
          | none => rfl
          | some b =>
            simp only [OpP0]
            cases m2 e1 with
            | bad => rfl
            | ex c e' => rfl
            | ok k2 e' =>
              show SoP0 (if b.length < 1000000 then So.nx (l.put (some (dput kbs k (dput b k2 y))) (l.put none e1)) else So.bad) N C B T = (b.length < 1000000 ∧ _)
              by_cases h : b.length < 1000000
              · rw [if_pos h]; exact propext ⟨fun q => ⟨h, q⟩, fun q => q.2⟩
              · rw [if_neg h]; exact propext ⟨fun q => q.elim, fun q => absurd q.1 h⟩
theorem rp_dictDD {l : Ln ε (List Int)} {it : ε → Rs ε (List (List Int))} {e : ε} {Q : List (List Int × List (List Int × β)) → ε → Prop} : RsP (mDictDD l it e) Q = RsP (it e) fun fs e1 => (fs.length ≤ 1000000 ∧ fs.Nodup) ∧ Q (fs.map fun f => (f, [])) e1 := by
  unfold mDictDD
  simp only [RsP_eq, rp_bind_0]
  congr; funext fs e1
  by_cases h : fs.length ≤ 1000000 ∧ fs.Nodup
  · rw [if_pos h]; exact propext ⟨fun q => ⟨h, q⟩, fun q => q.2⟩
  · rw [if_neg h]; exact propext ⟨fun q => q.elim, fun q => absurd q.1 h⟩
theorem op_popK {κ : Type} [DecidableEq κ] {kbs : List (κ × β)} {k : κ} {P : β × List (κ × β) → Prop} : OpP (gPopK kbs k) P = OpP (dget kbs k) fun b => P (b, ddel kbs k) := by
  unfold gPopK
  simp only [OpP_eq]
  cases dget kbs k <;> rfl
theorem op_sortFK {kbs : List (List Int × β)} {P : List (List Int) → Prop} : OpP (gSortFK kbs) P = ((kbs.length ≤ 1000000 ∧ (∀ f ∈ keysOf kbs, f.length ≤ 1000000)) ∧ P (srtF (keysOf kbs))) := by
  unfold gSortFK
  simp only [OpP_eq]
  split
  · next h => exact propext ⟨fun q => ⟨h, q⟩, fun q => q.2⟩
  · next h => exact propext ⟨fun q => q.elim, fun q => absurd q.1 h⟩
end
section
variable {ν α β γ ε ρ κ : Type} {M : Mx} {R R' : ERep ε} {F : Frm} {G G' H H' : Hp} {σ : Sg} {n : Nat} {own : Frm → Addr → Prop} {l : Ln ε α}
/-- the names as they stand, but for one -/
structure VwZ (R R' : ERep ε) (l : Ln ε α) : Prop where
  to : ∀ {K F G Ht H σ e}, IV F G Ht → Sub H Ht → R.rel K F G H σ e → l.get e = none → ∃ S : List Addr, (∀ b ∈ S, G b = none ∧ H b ≠ none ∧ ∃ o, H b = some o ∧ ∀ xs, o ≠ .tup xs) ∧
    ∀ {G1}, Sub G G1 → (∀ b ∈ S, G1 b = Ht b) → R'.rel K (fr0 G1 Ht) G1 Ht σ e
section
variable {R1 R1' : ERep ε} [op : OwnP own]
theorem VwZ.z {d : DRep α} {r : Rep α} (h : VwR R1 R1') : VwZ (eDp own d R1) (eFr r R1') Ln.z := ⟨fun {K F G Ht H σ e} i s ⟨o, σ', h1, h2⟩ hn => by
  rcases h2 with ⟨a, b⟩ | ⟨x, v, S0, a1, a2, a3, a4, a5⟩
  · obtain ⟨S, k1, k2⟩ := h.to i s b
    exact ⟨S, fun b hb => ⟨(k1 b hb).1, (by obtain ⟨o, e1, _⟩ := (k1 b hb).2; rw [e1]; intro z; cases z), (k1 b hb).2⟩, fun s1 s2 => ⟨o, σ', h1, fun x hx => (by rw [a] at hx; cases hx), k2 s1 s2⟩⟩
  · rw [show (Ln.z : Ln _ α).get e = e.1 from rfl, a1] at hn
    cases hn⟩
end
/-- the list told while the dict stands still -/
def mLockV {γ : Type} (l : Ln ε γ) (m : ε → Rs ε α) : ε → Rs ε α := fun e => match l.get e with
  | none => .bad
  | some x => match m (l.put (some x) (l.put none e)) with
    | .ok a _ => .ok a e
    | _ => .bad
end
def gEqT (x y : Th) : Option Bool := match thd x, thd y with
  | some d, some e => if SeqAt.shaped d = true ∧ SeqAt.shaped e = true then some (PyData.eqv d e) else none
  | _, _ => none
theorem v_eqT {K : PySem.W.Frag} : VR2 K (rEqD K) (ir rTh) (ir rTh) rB gEqT := fun G H v w a b c Q s h1 h2 hg k => by
  unfold gEqT at hg
  cases hd : thd a with
  | none => rw [hd] at hg; cases hg
  | some d =>
    cases he : thd b with
    | none => rw [hd, he] at hg; cases hg
    | some e =>
      rw [hd, he] at hg
      obtain ⟨hz, rfl⟩ := of_ite hg
      exact ⟨d, e, dp_th s h1 hd, dp_th s h2 he, hz.1, hz.2, k _ G H (.refl s) rfl⟩
section
variable {ν α β γ ε ρ κ : Type} {M : Mx} {R R' : ERep ε} {n n1 n2 : Nat} {own : Frm → Addr → Prop} {q1 : ORep α} {q2 : ORep β} {nt1 : NT q1} {nt2 : NT q2}
def mFstApp (l : Ln ε (List α × β)) (mx : ε → Rs ε α) : ε → Rs ε Unit := fun e => match l.get e with
  | some (x, y) => match mx e with
    | .ok a _ => if x.length < 1000000 then .ok () (l.put (some (x ++ [a], y)) (l.put none e)) else .bad
    | _ => .bad
  | none => .bad
def mSndClr (l : Ln ε (α × List β)) : ε → Rs ε Unit := fun e => match l.get e with
  | some (x, _) => .ok () (l.put (some (x, [])) (l.put none e))
  | none => .bad
def gIt2 (p : α × α) : Option (List α) := some [p.1, p.2]
def gItS (p : α × β) : Option (List (α ⊕ β)) := some [.inl p.1, .inr p.2]
end
section
variable {α β ε : Type}
theorem rp_fstApp {l : Ln ε (List α × β)} {e : ε} {mx : ε → Rs ε α} {Q : Unit → ε → Prop} : RsP (mFstApp l mx e) Q = OpP (l.get e) fun o => RsP (mx e) fun a _ => (o.1.length < 1000000 ∧ Q () (l.put (some (o.1 ++ [a], o.2)) (l.put none e))) := by
  unfold mFstApp
  simp only [RsP_eq, OpP_eq]
  cases l.get e with
  | none => rfl
  | some o =>
    obtain ⟨x, y⟩ := o
    dsimp only [OpP0]
    cases mx e with
    | bad => rfl
    | ex c e' => rfl
    | ok a e' =>
      dsimp only
      by_cases hz : x.length < 1000000
      · rw [if_pos hz]; exact propext ⟨fun h => ⟨hz, h⟩, fun h => h.2⟩
      · rw [if_neg hz]; exact propext ⟨fun h => h.elim, fun h => absurd h.1 hz⟩
theorem rp_sndClr {l : Ln ε (α × List β)} {e : ε} {Q : Unit → ε → Prop} : RsP (mSndClr l e) Q = OpP (l.get e) fun o => Q () (l.put (some (o.1, [])) (l.put none e)) := by
  unfold mSndClr
  simp only [RsP_eq, OpP_eq]
  cases l.get e with
  | none => rfl
  | some o => rfl
theorem rp_lockV {γ : Type} {l : Ln ε γ} {m : ε → Rs ε α} {e : ε} {Q : α → ε → Prop} : RsP (mLockV l m e) Q = OpP (l.get e) fun x => RsP (m (l.put (some x) (l.put none e))) fun a _ => Q a e := by
  unfold mLockV
  simp only [OpP_eq, RsP_eq]
  cases l.get e with
  | none => rfl
  | some x =>
    dsimp only [OpP0]
    cases m (l.put (some x) (l.put none e)) <;> rfl
end
section
variable {ε α β : Type} {M : Mx} {R : ERep ε}
theorem c_th : CastR rTh rTh (fun t => some t) := fun K G v a b h e => by cases e; exact h
end
def nonT : Th → Bool | .non => true | _ => false
def gIsNTh (x : Th) (_ : Unit) : Option Bool := some (nonT x)
theorem th_non {G : Hp} {v : V} {x : Th} (h : thR G v x) : decide (v = .non) = nonT x := by
  cases x with
  | non => unfold thR at h; subst h; rfl
  | int i => unfold thR at h; subst h; rfl
  | bl b => unfold thR at h; subst h; rfl
  | str s => unfold thR at h; subst h; rfl
  | lst xs => unfold thR at h; obtain ⟨L, vs, rfl, _⟩ := h; rfl
  | tup xs => unfold thR at h; obtain ⟨L, vs, rfl, _⟩ := h; rfl
  | dic xs => unfold thR at h; obtain ⟨L, vs, rfl, _⟩ := h; rfl
  | dct xs => unfold thR at h; obtain ⟨L, vs, rfl, _⟩ := h; rfl
theorem v_isNTh {K : PySem.W.Frag} : VR2 K rIsN (ir rTh) (ir rN) rB gIsNTh := fun G H v w a b c Q s h1 h2 hg k => by
  cases hg
  refine ⟨h2, k _ G H (.refl s) ?_⟩
  rw [th_non h1]
  rfl
section
variable {α β γ ε : Type} {K : PySem.W.Frag} {M : Mx} {R : ERep ε}
abbrev rJoin (K : PySem.W.Frag) : V → List V → Hp → VK → Prop := fun x xs H Q => ∃ a p, ∃ ys : List Str, x = .str a ∧ xs = [.ref p] ∧ (SqL K H p (ys.map V.str) ∨ SqT K H p (ys.map V.str)) ∧
      (ys.map (·.length)).sum + ys.length * a.length ≤ 16777216 ∧ Q (.str (Txt.join a ys)) H
theorem strs_of {G : Hp} {vs : List V} {ss : List Str} (h : A2 (rS.rel K G) vs ss) : vs = ss.map V.str := A2.eqMap h
def gJoin (a : Str) (ys : List Str) : Option Str := if (ys.map (·.length)).sum + ys.length * a.length ≤ 16777216 then some (Txt.join a ys) else none
theorem x_join {to te : TE} {m : ε → Rs ε Str} {n : ε → Rs ε (List Str)} (h : EX M R to (fz rS) m) (k : EX M R te (fz (rL rS)) n) : EX M R (tM1 (rJoin M.K) to te) (fz rS) (mOp gJoin m n) := fun F G H σ e i hR Q p =>
  h F G H σ e i hR _ (p.bind fz_h fun v a e1 G1 H1 i1 s1 R1 r1 p1 => ⟨⟨a, r1.1⟩, k F G1 H1 σ e1 i1 R1 _ (p1.bind fz_h fun v2 ys e2 G2 H2 i2 s2 R2 r2 p2 => by
    obtain ⟨b, hb, p3⟩ := of_some p2
    obtain ⟨hz, rfl⟩ := of_ite hb
    obtain ⟨⟨L, ho, rfl, hg, us, rfl, hu⟩, _⟩ := r2
    obtain rfl := strs_of hu
    exact ⟨a, L, ys, r1.1, rfl, .inl (sql_of i2.gh hg), hz, p3.fin i2 R2 _ G2 H2 (.refl i2.gh) rfl⟩)⟩)
def gCutS (z : Str) (lo hi : Option Int) : Option Str := if z.length ≤ 16777216 then some (cutS z lo hi) else none
theorem v_slS : VSl K rSlS (ir rS) rS gCutS := fun lo hi G H v a b Q s h1 hg k => by
  obtain ⟨hz, rfl⟩ := of_ite hg
  exact ⟨a, h1, by rw [sizeLine_eq]; omega, k _ G H (.refl s) rfl⟩
def gIxStr (z : Str) (i : Int) : Option Str := if z.length ≤ 16777216 then (atI z.cps.toList i).map fun c => ⟨#[c]⟩ else none
theorem v_ixStr : VR2 K rIxS (ir rS) (ir rI) rS gIxStr := fun G H v w a b c Q s h1 h2 hg k => by
  unfold gIxStr at hg
  by_cases hz : a.length ≤ 16777216
  · rw [if_pos hz] at hg
    cases hc : atI a.cps.toList b with
    | none => rw [hc] at hg; cases hg
    | some d =>
      rw [hc] at hg
      cases hg
      exact ⟨a, b, d, h1, h2, by rw [sizeLine_eq]; omega, hc, k _ G H (.refl s) rfl⟩
  · rw [if_neg hz] at hg; cases hg
abbrev rInSg : R2 := fun x y H Q => ∃ (c : Nat) (z : Str), x = .str ⟨#[c]⟩ ∧ y = .str z ∧ Q (.bl (decide (c ∈ z.cps.toList))) H
def gInSg (x z : Str) : Option Bool := match x.cps.toList with
  | [c] => some (decide (c ∈ z.cps.toList))
  | _ => none
theorem v_inSg : VR2 K rInSg (ir rS) (ir rS) rB gInSg := fun G H v w a b c Q s h1 h2 hg k => by
  unfold gInSg at hg
  split at hg
  · next d hd =>
    cases hg
    have : a = ⟨#[d]⟩ := Str.ext' (Array.toList_inj.mp (by rw [hd]))
    subst this
    exact ⟨d, b, h1, h2, k _ G H (.refl s) rfl⟩
  · cases hg
theorem c_LO {r : Rep α} : CastR (rz (oL (rO r))) (rz (oL r)) (allM fun o => o) := fun K G v xs b h e => by
  obtain ⟨L, ho, h1, h2, vs, rfl, h3⟩ := h
  refine ⟨L, _, h1, h2, vs, rfl, ?_⟩
  clear h1 h2
  induction h3 generalizing b with
  | nil => cases e; exact .nil
  | @cons v o vs xs hv _ ih =>
    unfold allM at e
    cases ho : o with
    | none => rw [ho] at e; cases e
    | some y =>
      rw [ho] at e
      cases hy : allM (fun o => o) xs with
      | none => rw [hy] at e; cases e
      | some ys =>
        rw [hy] at e
        cases e
        subst ho
        exact .cons hv.2 (ih ys hy)
end
section
variable {K : PySem.W.Frag} {w : World} {X : Cx}
def gSetLS (x : List Int ⊕ List Int) : Option (List Int) := match x with
  | .inl ns => gSet ns
  | .inr ns => gSet ns
end
section
variable {α β ε ρ : Type} {M : Mx} {R : ERep ε} {e : ε}
def mPairM (l : Ln ε α) (m : ε → Rs ε β) : ε → Rs ε (α × β) := fun e => match l.get e with
  | none => .bad
  | some _ => (m e).bind fun b e1 => (mMove l e1).bind fun a e2 => .ok (a, b) e2
theorem rp_pairM {l : Ln ε α} {m : ε → Rs ε β} {Q : α × β → ε → Prop} : RsP (mPairM l m e) Q = OpP (l.get e) fun _ => RsP (m e) fun b e1 => OpP (l.get e1) fun a => Q (a, b) (l.put none e1) := by
  simp only [RsP_eq, OpP_eq]
  unfold mPairM mMove
  cases l.get e with
  | none => rfl
  | some a => cases h : m e with
    | ok b e1 =>
      show RsP0 ((Rs.of (l.get e1) (l.put none e1)).bind fun a e2 => .ok (a, b) e2) Q = OpP0 (l.get e1) fun a => Q (a, b) (l.put none e1)
      cases h2 : l.get e1 <;> rfl
    | ex c e1 => rfl
    | bad => rfl
end
/-- values in a row, each with the addresses of its own parts -/
structure DsRep (α : Type) where
  rel : PySem.W.Frag → Hp → Hp → List Addr → List V → α → Prop
  gm : ∀ {K G G' H S vs a}, Sub G G' → rel K G H S vs a → rel K G' H S vs a
  loc : ∀ {K G H H' S vs a}, (∀ b ∈ S, H' b = H b) → rel K G H S vs a → rel K G H' S vs a
  nn : ∀ {K G H S vs a}, rel K G H S vs a → ∀ b ∈ S, H b ≠ none
  cg : ∀ {K G H S S' vs a}, (∀ b, b ∈ S' ↔ b ∈ S) → rel K G H S vs a → rel K G H S' vs a
  rf : ∀ {K G H S vs a}, rel K G H S vs a → ∃ Ls : List Addr, vs = Ls.map V.ref ∧ ∀ b ∈ Ls, b ∈ S
  len : Nat
  ln : ∀ {K G H S vs a}, rel K G H S vs a → vs.length = len
class DH {α : Type} (d : DRep α) : Prop where
  h : DHd d
instance {α : Type} {q : ORep α} {nt : NT q} : DH (dq q nt) := ⟨fun ⟨L, ho, h1, h2, _⟩ => ⟨L, h1, (h2 L).mpr rfl⟩⟩
instance {β : Type} {d : DRep β} : DH (dD d) := ⟨dh_D⟩
instance {β : Type} {d : DRep β} : DH (dL d) := ⟨dh_L⟩
def dsN : DsRep Unit := ⟨fun K G H S vs a => vs = [] ∧ ∀ b, b ∉ S, fun _ h => h, fun _ h => h, fun h b hb => absurd hb (h.2 b), fun e h => ⟨h.1, fun b hb => h.2 b ((e b).mp hb)⟩, fun h => ⟨[], h.1, fun b hb => (by cases hb)⟩, 0, fun h => by rw [h.1]; rfl⟩
theorem DsRep.hm {α : Type} {D : DsRep α} {K : PySem.W.Frag} {G H H' : Hp} {S : List Addr} {vs : List V} {a : α} (s : Sub H H') (h : D.rel K G H S vs a) : D.rel K G H' S vs a :=
  D.loc (fun b hb => by
    cases z : H b with
    | none => exact absurd z (D.nn h b hb)
    | some o => exact s _ _ z) h
section
variable {ν α β γ ε ρ ι κ : Type} {M : Mx} {R R' : ERep ε} {F : Frm} {G G' H H' : Hp} {σ : Sg} {n : Nat} {own : Frm → Addr → Prop} {K : PySem.W.Frag}
def lnU : Ln ε Unit := ⟨fun _ => some (), fun _ e => e⟩
def lnP (l : Ln ε α) (l' : Ln ε β) : Ln ε (α × β) := ⟨fun e => match l.get e, l'.get e with
  | some a, some b => some (a, b)
  | _, _ => none, fun o e => match o with
  | some p => l.put (some p.1) (l'.put (some p.2) e)
  | none => l'.put none (l.put none e)⟩
structure DqsAt (R : ERep ε) (ns : List Nat) (D : DsRep ι) (l : Ln ε ι) : Prop where
  rd : ∀ {K F G H σ e st}, R.rel K F G H σ e → l.get e = some st → ∃ us S, ns.map (fun n => σ[n]?) = us.map (fun v => some (some v)) ∧ D.rel K G H S us st ∧ OwS ownW F G S ∧ R.rel K F G (hideS H S) σ (l.put none e) ∧
    ∀ {G' H' e' S' st'}, R.rel K F G' (hideS H' S') σ e' → D.rel K G' H' S' us st' → (∀ b ∈ S', G' b = none) → (∀ b ∈ S', ownN F b ∨ b ∈ S) → R.rel K F G' H' σ (l.put (some st') e')
theorem DqsAt.nil : DqsAt R [] dsN lnU := ⟨fun {K F G H σ e st} hR _ => ⟨[], [], rfl, ⟨rfl, fun _ => List.not_mem_nil⟩, fun b hb => absurd hb List.not_mem_nil, by rw [hideS_nil]; exact hR, fun {G' H' e' S' st'} hR' h _ _ => by
  have : hideS H' S' = H' := by funext b; exact hideS_ne (h.2 b)
  rw [this] at hR'
  exact hR'⟩⟩
end
section
variable {ν ν' α β γ ε ρ ι κ : Type} {M : Mx} {R R' : ERep ε} {F : Frm} {G G' H H' : Hp} {σ : Sg} {n : Nat} {own : Frm → Addr → Prop} {rr : RS V ρ} {K : PySem.W.Frag}
def lkS : List Addr → Hp → Frm → Frm
  | [], _, F => F
  | b :: S, H, F => match H b with
    | some o => (lkS S (hide H b) F).lock b o
    | none => lkS S H F
theorem lkS_X : ∀ {S : List Addr} {H : Hp} {F : Frm} {b : Addr}, H b = none → F.X b = none → (lkS S H F).X b = none
  | [], _, _, _, _, h => h
  | c :: S, H, F, b, h1, h2 => by
    unfold lkS
    cases z : H c with
    | none => exact lkS_X h1 h2
    | some o =>
      have n : b ≠ c := fun e => by rw [e, z] at h1; cases h1
      show upd (lkS S (hide H c) F).X c o b = none
      rw [upd_ne n]
      exact lkS_X (by rw [hide_ne n]; exact h1) h2
theorem hideS_cons {b : Addr} {S : List Addr} : hideS H (b :: S) = hideS (hide H b) S := by
  funext c
  unfold hideS hide
  by_cases e : c = b <;> by_cases e' : c ∈ S <;> simp [e, e']
theorem lkS_in : ∀ {S : List Addr} {H H0 : Hp} {F : Frm} {e : ε}, IV F G H0 → Sub H H0 → (∀ b ∈ S, H b = none ∨ G b = none) →
    R.rel K F G (hideS H S) σ e → IV (lkS S H F) G H0 ∧ R.rel K (lkS S H F) G H σ e
  | [], H, H0, F, e, i, _, _, hR => ⟨i, by rw [hideS_nil] at hR; exact hR⟩
  | b :: S, H, H0, F, e, i, s, hg, hR => by
    rw [hideS_cons] at hR
    unfold lkS
    cases z : H b with
    | none =>
      rw [hide_none z] at hR
      exact lkS_in i s (fun c hc => hg c (List.mem_cons_of_mem _ hc)) hR
    | some o =>
      obtain ⟨h1, h2⟩ := lkS_in (H := hide H b) (S := S) i (hide_sub.trans s) (fun c hc => by
        by_cases e : c = b
        · exact .inl (by rw [e]; exact hide_same)
        · rw [hide_ne e]; exact hg c (List.mem_cons_of_mem _ hc)) hR
      have gb : G b = none := (hg b List.mem_cons_self).elim (fun y => by rw [z] at y; cases y) id
      exact ⟨h1.lock (s _ _ z) gb, R.lock h2⟩
theorem lkS_out : ∀ {S : List Addr} {H H' H0' : Hp} {F : Frm} {e : ε}, (∀ b ∈ S, F.X b = none) → IV (lkS S H F) G' H0' → R.rel K (lkS S H F) G' H' σ e → (∀ b ∈ S, H b = none → H' b = none) →
    IV F G' H0' ∧ R.rel K F G' (hideS H' S) σ e ∧ ∀ b ∈ S, ∀ o, H b = some o → H0' b = some o ∧ G' b = none
  | [], H, H', H0', F, e, _, i, hR, _ => ⟨i, by rw [hideS_nil]; exact hR, fun b hb => absurd hb List.not_mem_nil⟩
  | b :: S, H, H', H0', F, e, hX, i, hR, hn => by
    unfold lkS at i hR
    rw [hideS_cons]
    cases z : H b with
    | none =>
      rw [z] at i hR
      obtain ⟨k1, k2, k3⟩ := lkS_out (fun c hc => hX c (List.mem_cons_of_mem _ hc)) i hR fun c hc => hn c (List.mem_cons_of_mem _ hc)
      rw [hide_none (hn b List.mem_cons_self z)]
      refine ⟨k1, k2, fun c hc o ho => ?_⟩
      rcases List.mem_cons.mp hc with rfl | hc
      · rw [z] at ho; cases ho
      · exact k3 c hc o ho
    | some o =>
      rw [z] at i hR
      obtain ⟨i1, hb, gb⟩ := IV.unlock i (lkS_X hide_same (hX b List.mem_cons_self))
      obtain ⟨k1, k2, k3⟩ := lkS_out (fun c hc => hX c (List.mem_cons_of_mem _ hc)) i1 (R.unlock hR) fun c hc e => by
        by_cases y : c = b
        · rw [y]; exact hide_same
        · rw [hide_ne y] at e ⊢; exact hn c (List.mem_cons_of_mem _ hc) e
      refine ⟨k1, k2, fun c hc o' ho => ?_⟩
      by_cases y : c = b
      · subst y; rw [z] at ho; cases ho; exact ⟨hb, gb⟩
      · exact k3 c ((List.mem_cons.mp hc).resolve_left y) o' (by rw [hide_ne y]; exact ho)
/-- what is wanted of something that is reckoned while S stays -/
def PostH (M : Mx) (R : ERep ε) (F : Frm) (G H : Hp) (S : List Addr) (σ : Sg) (r : GR ν α) (Q : ν → Hp → Prop) : Rs ε α → Prop
  | .ok a e1 => ∀ w G1 H1, IV F G1 H1 → Sub G G1 → r.rel M.K G1 w a → R.rel M.K F G1 (hideS H1 S) σ e1 → (∀ b ∈ S, H1 b = H b ∧ G1 b = none) → Q w H1
  | .ex c e1 => ∀ cls d G' H', IV F G' H' → Sub G G' → R.rel M.K F G' H' σ e1 → xr M G' c cls d → M.E cls d H'
  | .bad => False
theorem PostH.bind {S : List Addr} {r : GR ν α} {rs : RS ν' β} {Q : ν → Hp → Prop} {Q' : ν' → Hp → Prop} {x : Rs ε α} {f : α → ε → Rs ε β} (h : Post M R F G σ rs Q' (x.bind f))
    (k : ∀ a e1 w G1 H1, IV F G1 H1 → Sub G G1 → r.rel M.K G1 w a → R.rel M.K F G1 (hideS H1 S) σ e1 → (∀ b ∈ S, H1 b = H b ∧ G1 b = none) → Post M R F G1 σ rs Q' (f a e1) → Q w H1) : PostH M R F G H S σ r Q x := by
  cases x with
  | ok a e => exact fun w G1 H1 i s hr hR hS => k a e w G1 H1 i s hr hR hS (Post.up h s)
  | ex c e => exact h
  | bad => exact h
theorem PostH.so {S : List Addr} {r : GR ν α} {D : Ends} {Q : ν → Hp → Prop} {x : Rs ε α} {f : α → ε → So ε ρ} (h : PostS M R rr F G D (x.so f)) (hD : ∀ c e', x = .ex c e' → False)
    (k : ∀ a e1 w G1 H1, IV F G1 H1 → Sub G G1 → r.rel M.K G1 w a → R.rel M.K F G1 (hideS H1 S) σ e1 → (∀ b ∈ S, H1 b = H b ∧ G1 b = none) → PostS M R rr F G1 D (f a e1) → Q w H1) : PostH M R F G H S σ r Q x := by
  cases x with
  | ok a e => exact fun w G1 H1 i s hr hR hS => k a e w G1 H1 i s hr hR hS (PostS.up h s)
  | ex c e => exact absurd (hD c e rfl) id
  | bad => exact h
theorem EX.held {t : Sg → Hp → (ν → Hp → Prop) → Prop} {r : GR ν α} {m : ε → Rs ε α} {S : List Addr} {e : ε} {Q : ν → Hp → Prop} (h : EX M R t (fz r) m) (i : IV F G H) (hne : ∀ b ∈ S, H b ≠ none) (hG : ∀ b ∈ S, G b = none) (hX : ∀ b ∈ S, F.X b = none)
    (hR : R.rel M.K F G (hideS H S) σ e) (p : PostH M R F G H S σ r Q (m e)) : t σ H Q := by
  obtain ⟨i1, R1⟩ := lkS_in (H := H) i .refl (fun b hb => .inr (hG b hb)) hR
  refine h (lkS S H F) G H σ e i1 R1 Q ?_
  revert p
  cases m e with
  | ok a e' =>
    intro p v G' H' H1 j s hr R2
    rw [hr.2] at R2
    obtain ⟨k1, k2, k3⟩ := lkS_out hX j R2 fun b hb z => absurd z (hne b hb)
    refine p v G' H' k1 s hr.1 k2 fun b hb => ?_
    cases z : H b with
    | none => exact absurd z (hne b hb)
    | some o => exact k3 b hb o z
  | ex c e' =>
    intro p cls d G' H' j s R2 hx
    obtain ⟨k1, k2, _⟩ := lkS_out hX j R2 fun b hb z => absurd z (hne b hb)
    exact p cls d G' H' k1 s (R.mono .refl hideS_sub (fun _ _ h => h) k2) hx
  | bad => exact fun p => p.elim
def mkF (fns : List Str) (vs : List V) (f : Str) (D : Addr) : List (Str × V) := fns.zip vs ++ [(f, .ref D)]
/-- one's own: the attributes frozen but the last, an object of its own -/
def dObj (C : Addr) (fns : List Str) (ra : GR (List V) α) (f : Str) (q : ORep β) (nt : NT q) : DRep (α × β) :=
  ⟨fun K G H S v a => ∃ x dx D vs ho, v = .ref x ∧ (∀ b, b ∈ S ↔ b = x ∨ b = dx ∨ b = D) ∧ (dx ≠ x ∧ D ≠ x ∧ D ≠ dx) ∧ H x = some (.ins C dx (mkF fns vs f D)) ∧ H dx = some (.own x) ∧ vs.length = fns.length ∧ ra.rel K G vs a.1 ∧ H D = some ho ∧ q.rel K G ho a.2,
   fun s ⟨x, dx, D, vs, ho, h1, h2, h3, h4, h5, h6, h7, h8, h9⟩ => ⟨x, dx, D, vs, ho, h1, h2, h3, h4, h5, h6, ra.mono s h7, h8, q.mono s h9⟩,
   fun e ⟨x, dx, D, vs, ho, h1, h2, h3, h4, h5, h6, h7, h8, h9⟩ => ⟨x, dx, D, vs, ho, h1, h2, h3, by rw [e x ((h2 x).mpr (.inl rfl))]; exact h4, by rw [e dx ((h2 dx).mpr (.inr (.inl rfl)))]; exact h5, h6, h7, by rw [e D ((h2 D).mpr (.inr (.inr rfl)))]; exact h8, h9⟩,
   fun ⟨x, dx, D, vs, ho, h1, h2, h3, h4, h5, h6, h7, h8, h9⟩ b hb => by
     rcases (h2 b).mp hb with rfl | rfl | rfl
     · exact ⟨_, h4, fun xs z => by cases z⟩
     · exact ⟨_, h5, fun xs z => by cases z⟩
     · exact ⟨_, h8, nt _ _ _ _ h9⟩,
   fun e ⟨x, dx, D, vs, ho, h1, h2, h3⟩ => ⟨x, dx, D, vs, ho, h1, fun b => (e b).trans (h2 b), h3⟩⟩
variable {C : Addr} {fns : List Str} {ra : GR (List V) α} {f g : Str} {q : ORep β} {nt : NT q}
theorem dh_ins : DHd (dObj C fns ra f q nt) := fun ⟨x, dx, D, vs, ho, h1, h2, _⟩ => ⟨x, h1, (h2 x).mpr (.inl rfl)⟩
/-- where a frozen attribute stands -/
structure FldAt (fns : List Str) (ra : GR (List V) α) (g : Str) (r : Rep γ) (pr : α → γ) : Prop where
  at_ : ∀ {K G vs a}, ra.rel K G vs a → vs.length = fns.length → ∃ v, (fns.zip vs).lookup g = some v ∧ r.rel K G v (pr a)
theorem FldAt.next {r : Rep γ} {r' : Rep κ} {pr : α → γ} {g' : Str} (ne : g ≠ g') (h : FldAt fns ra g r pr) : FldAt (g' :: fns) (gConsA r' ra) g r (fun a => pr a.2) := ⟨fun ⟨v, ws, h1, h2, h3⟩ hl => by
  subst h1
  obtain ⟨u, k1, k2⟩ := h.at_ h3 (by simpa using hl)
  exact ⟨u, by rw [List.zip_cons_cons, List.lookup_cons, beq_false_of_ne ne]; exact k1, k2⟩⟩
/-- what of a class its attributes ask -/
structure IsC (K : PySem.W.Frag) (C : Addr) (gs : List Str) : Prop where
  cl : Cls K C
  na : ∀ g ∈ gs, NoAttr K C g
/-- of a new one, that is dropped -/
def mMethT (m : ε → Rs ε ι) (u : ι → κ → Rs ι ρ) (mm : ε → Rs ε κ) : ε → Rs ε ρ := fun e => (m e).bind fun s e1 => (mm e1).bind fun a e2 => match u s a with
  | .ok b _ => .ok b e2
  | _ => .bad
end
section
variable {ν ν' α β γ ε ρ ι κ δ : Type} {M : Mx} {R R' : ERep ε} {F : Frm} {G G' H H' : Hp} {σ : Sg} {n : Nat} {own : Frm → Addr → Prop} {rr : RS V ρ} {K : PySem.W.Frag}
variable {C : Addr} {fns : List Str} {ra : GR (List V) α} {f g : Str} {q : ORep β} {nt : NT q}
/-- self.f.m(..) -/
def mBMF (l : Ln ε (α × β)) (gg : β → δ → Option (γ × β)) (m : ε → Rs ε δ) : ε → Rs ε γ := fun e => match l.get e with
  | none => .bad
  | some st => (m (l.put none e)).bind fun a e1 => match gg st.2 a with
    | none => .bad
    | some (b, o') => .ok b (l.put (some (st.1, o')) e1)
/-- self.f[i] = y -/
def mSetF (l : Ln ε (α × β)) (gg : β → δ → γ → Option β) (mi : ε → Rs ε δ) (m : ε → Rs ε γ) : ε → So ε ρ := fun e => (m e).so fun y e1 => match l.get e1 with
  | none => .bad
  | some st => match mi (l.put none e1) with
    | .ok x e2 => match gg st.2 x y with
      | none => .bad
      | some o' => .nx (l.put (some (st.1, o')) e2)
    | _ => .bad
/-- the names hold frozen things alone -/
def FrO (R : ERep ε) : Prop := ∀ {K F F' G H H' σ e}, R.rel K F G H σ e → R.rel K F' G H' σ e
theorem FrO.nil : FrO eNil := fun h => h
theorem FrO.fr {r : Rep α} (h : FrO R) : FrO (eFr r R) := fun ⟨o, σ', h1, h2, h3⟩ => ⟨o, σ', h1, h2, h h3⟩
structure MkS (K : PySem.W.Frag) (R : ERep ε) (C : Addr) (F : Frm) (x dx : Addr) (fs : List (Str × V)) (G H : Hp) (σ : Sg) (e : ε) : Prop where
  iv : IV F G H
  wx : x ∈ F.ws ∧ dx ∈ F.ws ∧ dx ≠ x
  fx : ∀ b, F.X b = none ∧ F.Y b = none
  ox : H x = some (.ins C dx fs)
  od : H dx = some (.own x)
  gx : G x = none
  gd : G dx = none
  nr : R.rel K (fr0 G H) G H σ e
  s0 : σ[0]? = some (some (.ref x))
theorem MkS.put {x dx : Addr} {fs : List (Str × V)} {e : ε} (s : MkS K R C F x dx fs G H σ e) (fo : FrO R) {e' : ε} {G1 H1 : Hp} {fs' : List (Str × V)} (j : IV (fr0 G H) G1 H1) (nr : R.rel K (fr0 G H) G1 H1 σ e') : MkS K R C F x dx fs' G1 (upd H1 x (.ins C dx fs')) σ e' := by
  have i1 : IV F G1 H1 := s.iv.after j fun _ z => absurd z List.not_mem_nil
  have hx : H1 x = some (.ins C dx fs) := j.fr x _ List.not_mem_nil s.ox
  have hd : H1 dx = some (.own x) := j.fr dx _ List.not_mem_nil s.od
  have gn : ∀ b, G b = none → H b ≠ none → G1 b = none := fun b h1 h2 => by
    cases z : G1 b with
    | none => rfl
    | some o => exact absurd h1 (j.new b h2 (by rw [z]; intro z; cases z))
  have gx := gn x s.gx (by rw [s.ox]; intro z; cases z)
  exact ⟨i1.put (own := ownW) ownW_q hx gx ⟨.inr s.wx.1, (s.fx x).1, (s.fx x).2⟩ (fun xs z => by cases z), s.wx, s.fx, upd_same, by rw [upd_ne s.wx.2.2]; exact hd, gx, gn dx s.gd (by rw [s.od]; intro z; cases z), fo nr, s.s0⟩
theorem MkS.step {x dx : Addr} {fs : List (Str × V)} {e e' : ε} {E' : XK} {cx : Str → Addr} {te : TE} {r : Rep γ} {m : ε → Rs ε γ} {b : γ} {D : Ends} {gs : List Str} (s : MkS K R C F x dx fs G H σ e) (fo : FrO R) (ic : IsC K C gs) (hg : g ∈ gs) (hl : fs.length < 1000)
    (h : EX ⟨K, E', cx⟩ R te (fz r) m) (hm : m e = .ok b e') (k : ∀ v G1 H1, Sub G G1 → r.rel K G1 v b → MkS K R C F x dx (putF g v fs) G1 H1 σ e' → D.nx σ H1) : sFld K (tVar 0) te g D σ H :=
  h (fr0 G H) G H σ e (.start ⟨s.iv.gh, s.iv.tp⟩) s.nr _ (by
    rw [hm]
    intro v G1 H1 H1' j sg hr nr
    rw [hr.2] at nr
    exact ⟨_, s.s0, x, C, dx, fs, rfl, j.fr x _ List.not_mem_nil s.ox, ic.cl, ic.na g hg, hl, k v G1 _ sg hr.1 (s.put fo j nr)⟩)
end
section
variable {ν ν' α β γ ε ρ ι κ δ : Type} {M : Mx} {R R' : ERep ε} {F : Frm} {G G' H H' : Hp} {σ : Sg} {n : Nat} {own : Frm → Addr → Prop} {rr : RS V ρ} {K : PySem.W.Frag}
variable {C : Addr} {f : Str} {q : ORep β} {nt : NT q}
def Rs.dr (x : Rs ε α) : Rs Unit α := match x with
  | .ok a _ => .ok a () | .ex _ _ => .bad | .bad => .bad
theorem never_f {P : Program} {w : World} {mg : Str → Option Value} {base : Heap} {k : Nat} {f : Addr} {fd : FuncData} {ps : List Str} {sp : Sp} (h : ∀ vs H Q E, ¬ sp vs H Q E) : FnOk P w K mg base CX0 k f fd ps sp :=
  ⟨fun _ _ _ _ z => absurd z (h _ _ _ _), fun _ _ _ _ _ _ _ _ _ _ _ _ _ z => absurd z (h _ _ _ _)⟩
theorem never_D {cx : Str → Addr} {ra : IR (List V) α} {rr : RS V ρ} {u : α → Rs Unit ρ} (h : ∀ a, u a = .bad) : ∀ vs H Q E, ¬ spD K cx ra rr u vs H Q E := fun vs H Q E ⟨G, a, _, _, p⟩ => by rw [h] at p; exact p.elim
section
variable {e : ε} {Q : α → ε → Prop}
theorem rp_dr {x : Rs ε α} {Q : α → Unit → Prop} : RsP x.dr Q = RsP x fun a _ => Q a () := by
  simp only [RsP_eq]
  cases x <;> rfl
theorem rp_bmF {l : Ln ε (γ × β)} {gg : β → δ → Option (α × β)} {m : ε → Rs ε δ} : RsP (mBMF l gg m e) Q = OpP (l.get e) fun st => RsP (m (l.put none e)) fun a e1 => OpP (gg st.2 a) fun p => Q p.1 (l.put (some (st.1, p.2)) e1) := by
  unfold mBMF
  simp only [RsP_eq, OpP_eq]
  cases l.get e with
  | none => rfl
  | some st =>
    dsimp only
    show RsP0 ((m (l.put none e)).bind _) Q = RsP0 (m (l.put none e)) fun a e1 => OpP0 (gg st.2 a) fun p => Q p.1 (l.put (some (st.1, p.2)) e1)
    cases m (l.put none e) with
    | ok a e1 =>
      rw [Rs.bind_ok]
      show _ = OpP0 (gg st.2 a) fun p => Q p.1 (l.put (some (st.1, p.2)) e1)
      cases gg st.2 a with
      | none => rfl
      | some p => rfl
    | ex c e1 => rfl
    | bad => rfl
theorem sp_setF {l : Ln ε (κ × β)} {gg : β → δ → γ → Option β} {mi : ε → Rs ε δ} {m : ε → Rs ε γ} {N C B : ε → Prop} {T : ρ → ε → Prop} : SoP (mSetF l gg mi m e : So ε ρ) N C B T = RsP (m e) fun y e1 => OpP (l.get e1) fun st => RsP (mi (l.put none e1)) fun x e2 => OpP (gg st.2 x y) fun o' => N (l.put (some (st.1, o')) e2) := by
  unfold mSetF
  simp only [RsP_eq, OpP_eq, SoP_eq]
  cases m e with
  | ex c e1 => rfl
  | bad => rfl
  | ok y e1 =>
    rw [Rs.so_ok]
    show SoP0 _ N C B T = OpP0 (l.get e1) fun st => RsP0 (mi (l.put none e1)) fun x e2 => OpP0 (gg st.2 x y) fun o' => N (l.put (some (st.1, o')) e2)
    cases l.get e1 with
    | none => rfl
    | some st =>
      dsimp only
      show SoP0 _ N C B T = RsP0 (mi (l.put none e1)) fun x e2 => OpP0 (gg st.2 x y) fun o' => N (l.put (some (st.1, o')) e2)
      cases mi (l.put none e1) with
      | ex c e1 => rfl
      | bad => rfl
      | ok x e2 =>
        dsimp only
        show SoP0 _ N C B T = OpP0 (gg st.2 x y) fun o' => N (l.put (some (st.1, o')) e2)
        cases gg st.2 x y with
        | none => rfl
        | some o => rfl
theorem rp_methT {ms : ε → Rs ε ι} {u : ι → κ → Rs ι α} {mm : ε → Rs ε κ} : RsP (mMethT ms u mm e) Q = RsP (ms e) fun s e1 => RsP (mm e1) fun a e2 => RsP (u s a) fun b _ => Q b e2 := by
  unfold mMethT
  simp only [RsP_eq]
  cases ms e with
  | ex c e1 => rfl
  | bad => rfl
  | ok s e1 =>
    rw [Rs.bind_ok]
    show RsP0 ((mm e1).bind _) Q = RsP0 (mm e1) fun a e2 => RsP0 (u s a) fun b _ => Q b e2
    cases mm e1 with
    | ex c e1 => rfl
    | bad => rfl
    | ok a e2 =>
      rw [Rs.bind_ok]
      show _ = RsP0 (u s a) fun b _ => Q b e2
      cases u s a <;> rfl
end
end
def gMulS0 (a : Str) (n : Int) : Option Str := if (0 ≤ n ∧ n ≤ 1000) ∧ 1 ≤ a.length ∧ a.length ≤ 1000 then some (repS a n.toNat) else none
instance {α β : Type} {C : Addr} {fns : List Str} {ra : GR (List V) α} {f : Str} {q : ORep β} {nt : NT q} : DH (dObj C fns ra f q nt) := ⟨dh_ins⟩
section
variable {ν ν' α β γ ε ρ ι κ δ : Type} {M : Mx} {R R' : ERep ε} {F : Frm} {G G' H H' : Hp} {σ : Sg} {n : Nat} {own : Frm → Addr → Prop} {rr : RS V ρ} {K : PySem.W.Frag} {ns : List Nat}
/-- some names' values stay -/
def Kps (ns : List Nat) (F : Frm) (σ : Sg) : Prop := ∃ Ls : List Addr, ns.map (fun n => σ[n]?) = Ls.map (fun L => some (some (V.ref L))) ∧ F.ws.take ns.length = Ls
def eHs (ns : List Nat) (R : ERep ε) : ERep ε := ⟨fun K F G H σ e => R.rel K F G H σ e ∧ Kps ns F σ, fun g h n ⟨a, b⟩ => ⟨R.mono g h n a, b⟩, fun ⟨a, b⟩ => ⟨R.lock a, b⟩, fun ⟨a, b⟩ => ⟨R.unlock a, b⟩⟩
theorem Kps.set {x : Option V} (h : n ∉ ns) : Kps ns F (σ.set n x) = Kps ns F σ := by
  have : ns.map (fun n' => (σ.set n x)[n']?) = ns.map (fun n' => σ[n']?) := List.map_congr_left fun m hm => by
    rw [List.getElem?_set_ne (fun e => h (by rw [e]; exact hm))]
  unfold Kps
  rw [this]
theorem OwAt.hs {q : ORep α} {l : Ln ε α} (h : OwAt R n own q l) (hn : n ∉ ns) : OwAt (eHs ns R) n own q l :=
  ⟨fun ⟨a, b⟩ x => let ⟨L, ho, c1, c2, c3, c4, c5, c6⟩ := h.rd a x; ⟨L, ho, c1, c2, c3, c4, c5, c6, b⟩, fun ⟨a, b⟩ c1 c2 c3 c4 c5 => ⟨h.bk a c1 c2 c3 c4 c5, b⟩, fun ⟨a, b⟩ c1 c2 c3 c4 => ⟨h.wr a c1 c2 c3 c4, by rw [Kps.set hn]; exact b⟩, fun ⟨a, b⟩ => ⟨h.kl a, b⟩⟩
theorem DpAt.hs {d : DRep α} {l : Ln ε α} (h : DpAt R n own d l) (hn : n ∉ ns) : DpAt (eHs ns R) n own d l :=
  ⟨fun ⟨a, b⟩ x => let ⟨v, S, c1, c2, c3, c4⟩ := h.rd a x; ⟨v, S, c1, c2, c3, c4, b⟩, fun ⟨a, b⟩ c1 c2 c3 => ⟨h.bk a c1 c2 c3, b⟩, fun ⟨a, b⟩ c1 c2 => ⟨h.wr a c1 c2, by rw [Kps.set hn]; exact b⟩, fun ⟨a, b⟩ => ⟨h.kl a, b⟩⟩
section
variable {l : Ln ε α} {l' : Ln ε β} {e : ε}
theorem op_lnP {Q : α × β → Prop} : OpP ((lnP l l').get e) Q = OpP (l.get e) fun a => OpP (l'.get e) fun b => Q (a, b) := by
  simp only [OpP_eq]
  show OpP0 (match l.get e, l'.get e with | some a, some b => some (a, b) | _, _ => none) Q = _
  cases l.get e with
  | none => rfl
  | some a => cases l'.get e <;> rfl
theorem ln_putS {p : α × β} : (lnP l l').put (some p) e = l.put (some p.1) (l'.put (some p.2) e) := rfl
theorem ln_putN : (lnP l l').put none e = l'.put none (l.put none e) := rfl
theorem op_lnU {Q : Unit → Prop} : OpP ((lnU : Ln ε Unit).get e) Q = Q () := op_some
theorem ln_putU {o : Option Unit} : (lnU : Ln ε Unit).put o e = e := rfl
end
end
section
variable {ν ν' α β γ ε ρ ι κ δ : Type} {M : Mx} {R R' : ERep ε} {F : Frm} {G G' H H' : Hp} {σ : Sg} {n : Nat} {own : Frm → Addr → Prop} {rr : RS V ρ} {K : PySem.W.Frag} {ns : List Nat}
theorem Kps.at {j : Nat} {L : Addr} (k : Kps ns F σ) (hj : ns[j]? = some n) (hL : F.ws[j]? = some L) : σ[n]? = some (some (.ref L)) := by
  obtain ⟨Ls, h1, h2⟩ := k
  have e : (ns.map (fun n => σ[n]?))[j]? = (Ls.map fun L => some (some (V.ref L)))[j]? := by rw [h1]
  rw [List.getElem?_map, List.getElem?_map, hj] at e
  have hl : j < ns.length := (List.getElem?_eq_some_iff.mp hj).1
  rw [← h2, List.getElem?_take_of_lt hl, hL] at e
  exact Option.some.inj e
end
section
variable {ν ν' α β γ ε ρ ι κ δ : Type} {M : Mx} {R R' : ERep ε} {F : Frm} {G G' H H' : Hp} {σ : Sg} {n : Nat} {own : Frm → Addr → Prop} {rr : RS V ρ} {K : PySem.W.Frag}
def mExtD (l : Ln ε (List α)) (m : ε → Rs ε (List α)) : ε → Rs ε Unit := fun e => match l.get e with
  | none => .bad
  | some _ => (m e).bind fun a e1 => match l.get e1 with
    | none => .bad
    | some xs => if xs.length + a.length ≤ 1000000 then .ok () (l.put (some (xs ++ a)) (l.put none e1)) else .bad
/-- for x in xs: x.append(c) -/
def mEach (l : Ln ε (List (List α))) (l' : Ln ε Unit) (a : α) : ε → So ε ρ := fun e => match l.get e with
  | none => .bad
  | some xs => if ∀ x ∈ xs, x.length < 1000000 then .nx (l.put (some (xs.map (· ++ [a]))) (l'.put none (l.put none e))) else .bad
section
variable {N C B : ε → Prop} {T : ρ → ε → Prop} {e : ε}
theorem rp_extD {l : Ln ε (List α)} {m : ε → Rs ε (List α)} {Q : Unit → ε → Prop} : RsP (mExtD l m e) Q = OpP (l.get e) fun _ => RsP (m e) fun a e1 => OpP (l.get e1) fun xs => xs.length + a.length ≤ 1000000 ∧ Q () (l.put (some (xs ++ a)) (l.put none e1)) := by
  unfold mExtD
  simp only [RsP_eq, OpP_eq]
  cases l.get e with
  | none => rfl
  | some _ =>
    cases m e with
    | ok a e1 =>
      simp only [Rs.bind_ok]
      show RsP0 (match l.get e1 with | none => _ | some xs => _) _ = OpP0 (l.get e1) _
      cases l.get e1 with
      | none => rfl
      | some xs =>
        show RsP0 (if xs.length + a.length ≤ 1000000 then _ else _) _ = (_ ∧ _)
        by_cases h : xs.length + a.length ≤ 1000000
        · rw [if_pos h]
          exact propext ⟨fun z => ⟨h, z⟩, fun z => z.2⟩
        · rw [if_neg h]
          exact propext ⟨False.elim, fun z => h z.1⟩
    | ex c e1 => rfl
    | bad => rfl
theorem sp_each {l : Ln ε (List (List α))} {l' : Ln ε Unit} {a : α} : SoP (mEach l l' a e) N C B T = OpP (l.get e) fun xs => (∀ x ∈ xs, x.length < 1000000) ∧ N (l.put (some (xs.map (· ++ [a]))) (l'.put none (l.put none e))) := by
  unfold mEach
  simp only [SoP_eq, OpP_eq]
  cases l.get e with
  | none => rfl
  | some xs =>
    by_cases h : ∀ x ∈ xs, x.length < 1000000
    · simp only [if_pos h, SoP0, OpP0]
      exact propext ⟨fun z => ⟨h, z⟩, fun z => z.2⟩
    · simp only [if_neg h, SoP0, OpP0]
      exact propext ⟨False.elim, fun z => h z.1⟩
end
end
section
variable (n : Nat) (fit : List Int → Int → Bool) (okp : Nat → Int → Bool)
/-- the pieces that may come -/
def cands (laid : List Int) : List Int := (rng 0 n).filter fun k => decide (k ∉ laid) && fit laid k
/-- what goes on from laid ones, so many more -/
def ext : Nat → List Int → List (List Int)
  | 0, laid => [laid]
  | m + 1, laid => (cands n fit laid).flatMap fun k => ext m (laid ++ [k])
variable {n fit okp}
end
section
variable {ε ε' α β γ ρ ι κ : Type}
def RyP (X : Xc → ε → Prop) (x : Rs ε α) (Q : α → ε → Prop) : Prop := match x with
  | .ok a e => Q a e | .ex c e => X c e | .bad => False
def SyP (X : Xc → ε → Prop) (x : So ε ρ) (N C B : ε → Prop) (T : ρ → ε → Prop) : Prop := match x with
  | .nx e => N e | .ct e => C e | .bk e => B e | .rt a e => T a e | .ex c e => X c e | .bad => False
variable {X : Xc → ε → Prop} {N C B : ε → Prop} {T : ρ → ε → Prop} {e : ε}
theorem RyP.of {x : Rs ε α} {Q : α → ε → Prop} (h : RsP x Q) : RyP X x Q := by cases h with | mk h => exact h
theorem RyP.imp {X' : Xc → ε → Prop} {x : Rs ε α} {P Q : α → ε → Prop} (h : RyP X x P) (k : ∀ a e, P a e → Q a e) (kx : ∀ c e, X c e → X' c e) : RyP X' x Q := by
  cases x with
  | ok a e => exact k a e h
  | ex c e => exact kx c e h
  | bad => exact h
theorem SyP.of {x : So ε ρ} (h : SoP x N C B T) : SyP X x N C B T := by cases h <;> assumption
theorem RyP.rs {x : Rs ε α} {Q : α → ε → Prop} (h : RyP (fun _ _ => False) x Q) : RsP x Q := by
  cases x with
  | ok a e => exact .mk h
  | ex c e => exact h.elim
  | bad => exact h.elim
end
def gRepT0 {α : Type} (xs : List α) (k : Int) : Option (List α) := if xs ≠ [] ∧ 0 ≤ k ∧ k ≤ 1000 ∧ xs.length ≤ 1000 then some (List.replicate k.toNat xs).flatten else none
/-- a mask from whose slots each other one is come to -/
structure MB (m : Nat) : Prop where
  all : ∀ j, j ≤ m → ∃ b, b ≤ m ∧ lcgN m b = j
  rnd : lcgN m (m + 1) = 0
  odd : m % 2 = 1
  lo : 7 ≤ m
  hi : m ≤ 511
section
variable {m : Nat}
theorem MB.mod (h : MB m) : ∀ k, lcgN m (m + 1 + k) = lcgN m k
  | 0 => h.rnd
  | k + 1 => congrArg (fun x => (x * 5 + 1) % (m + 1)) (h.mod k)
theorem MB.from_ (h : MB m) {i j : Nat} (hi : i ≤ m) (hj : j ≤ m) : ∃ k, k ≤ m ∧ lcgI m i k = j := by
  obtain ⟨a, ha, rfl⟩ := h.all i hi
  obtain ⟨b, hb, rfl⟩ := h.all j hj
  by_cases c : a ≤ b
  · exact ⟨b - a, by omega, by rw [lcgN_add]; congr 1; omega⟩
  · refine ⟨b + (m + 1) - a, by omega, ?_⟩
    rw [lcgN_add, ← h.mod b]
    congr 1
    omega
theorem MB.run (hm : MB m) (h : Int) {j : Nat} (hj : j ≤ m) : ∃ n, n ≤ m + 12 ∧ runI m (SetTable.bits h) n = j := by
  obtain ⟨k, hk, e⟩ := hm.from_ (runI_le m (SetTable.bits h) 12) hj
  exact ⟨12 + k, by omega, (runI_tail (bits_lt h) k).trans e⟩
theorem MB.meets (hm : MB m) (h : Int) {j : Nat} (hj : j ≤ m) : ∃ k, k < 10 * SetTable.turns m ∧ way m h k = j := by
  obtain ⟨n, hn, e⟩ := hm.run h hj
  obtain ⟨k, hk, e2⟩ := run_nth m (SetTable.bits h) n
  have h3 : k < 10 * SetTable.turns m := by
    unfold SetTable.turns
    omega
  exact ⟨k, h3, (congrArg SetTable.Probe.j e2).trans e⟩
theorem wayB_le (m : Nat) (h : Int) (k : Nat) : way m h k ≤ m := by
  have hi : SetTable.bits h % (m + 1) ≤ m := Nat.le_of_lt_succ (Nat.mod_lt _ (Nat.succ_pos _))
  have r := runEnd_bd hi
  have q := nth_in (m := m) k (runAt m (SetTable.bits h % (m + 1)) (SetTable.bits h)) (show SetTable.bits h % (m + 1) + (SetTable.runEnd m (SetTable.bits h % (m + 1)) - SetTable.bits h % (m + 1)) ≤ m by omega)
  exact Nat.le_trans (Nat.le_add_right _ _) q
end
/-- a table in which each hash is found on its way -/
structure TabB (t : SetTable) (hs : List Int) : Prop where
  ris : Ris t.place.toList
  dm : t.dummies = #[]
  sz : t.place.size = hs.length
  mb : MB t.mask
  bd : ∀ x ∈ t.place.toList, x ≤ t.mask
  reach : ∀ (i : Nat) (h : Int) (j : Nat), hs[i]? = some h → t.place.toList[i]? = some j → ∃ k, way t.mask h k = j ∧ ∀ k', k' < k → way t.mask h k' ∈ t.place.toList
section
variable {t : SetTable} {hs : List Int}
theorem TabB.first (T : TabB t hs) (hl : hs.length ≤ t.mask) (h : Int) : ∃ K, K < 10 * SetTable.turns t.mask ∧ way t.mask h K ∉ t.place.toList ∧ ∀ k, k < K → way t.mask h k ∈ t.place.toList := by
  obtain ⟨j, hj, hn⟩ := st_missing t.place.toList (t.mask + 1) (by rw [Array.length_toList, T.sz]; omega)
  obtain ⟨k, hk, rfl⟩ := T.mb.meets h (Nat.le_of_lt_succ hj)
  obtain ⟨K, h1, h2, h3⟩ := st_least (p := fun k => way t.mask h k ∉ t.place.toList) k hn
  exact ⟨K, Nat.lt_of_le_of_lt h1 hk, h2, fun k' hk' => Decidable.byContradiction fun c => h3 k' hk' c⟩
/-- what stands behind one is put in -/
structure PutB (t : SetTable) (hs : List Int) (h : Int) (K : Nat) (t1 : SetTable) (p : Nat) : Prop where
  pl : p ≤ hs.length
  tab : TabB t1 (hs.take p ++ h :: hs.drop p)
  msk : t1.mask = t.mask
  led : t1.led = t.led
  plain : t1.plain = t.plain
  fill : t1.fill = hs.length + 1
theorem TabB.put (T : TabB t hs) {h : Int} {K : Nat} (hK : way t.mask h K ∉ t.place.toList) (hb : ∀ k, k < K → way t.mask h k ∈ t.place.toList) : PutB t hs h K (t.put (way t.mask h K)).1 (t.put (way t.mask h K)).2 := by
  have hjm := wayB_le t.mask h K
  generalize hj : way t.mask h K = j at hK hjm
  have c1 := (below_cut T.ris j).1
  have e2 : (t.put j).2 = SetTable.below t.place j := rfl
  have hpl : SetTable.below t.place j ≤ t.place.toList.length := by rw [Array.length_toList]; exact c1
  have hph : SetTable.below t.place j ≤ hs.length := T.sz ▸ c1
  have hpp := put_place t j
  have up : ∀ {x : Nat}, x ∈ t.place.toList → x ∈ (t.put j).1.place.toList := fun hx => hpp ▸ mem_ins.2 (.inr hx)
  have hsize : (t.put j).1.place.size = hs.length + 1 := by
    have q := congrArg List.length hpp
    rw [len_ins _ hpl, Array.length_toList, Array.length_toList, T.sz] at q
    exact q
  have hdm := put_dm T.dm j
  rw [e2]
  refine ⟨hph, ⟨ris_insert T.ris fun e => hK ?_, hdm, by rw [len_ins _ hph]; exact hsize, T.mb, ?_, ?_⟩, rfl, rfl, rfl, ?_⟩
  · exact List.mem_of_getElem? ((Array.getElem?_toList ..).trans e)
  · intro x hx
    rw [hpp] at hx
    rcases mem_ins.1 hx with rfl | z
    · exact hjm
    · exact T.bd x z
  · intro i h' j' h1 h2
    rw [tins_get hs hph] at h1
    rw [hpp, tins_get _ hpl] at h2
    have old : ∀ i, hs[i]? = some h' → t.place.toList[i]? = some j' → ∃ k, way t.mask h' k = j' ∧ ∀ k', k' < k → way t.mask h' k' ∈ (t.put j).1.place.toList := fun i a b => by
      obtain ⟨k, e, z⟩ := T.reach i h' j' a b
      exact ⟨k, e, fun k' hk' => up (z k' hk')⟩
    rcases Nat.lt_trichotomy i (SetTable.below t.place j) with c | c | c
    · rw [if_pos c] at h1 h2
      exact old i h1 h2
    · rw [if_neg (by omega), if_pos c] at h1 h2
      cases h1
      cases h2
      exact ⟨K, hj, fun k' hk' => up (hb k' hk')⟩
    · rw [if_neg (by omega), if_neg (by omega)] at h1 h2
      exact old (i - 1) h1 h2
  · show (t.put j).1.place.size + (t.put j).1.dummies.size = _
    rw [hsize, hdm]
    rfl
end
/-- a set of tuples: all of it -/
structure SetB (P : Program) (w : World) (h : Heap) (a : Addr) (L : List (Addr × List Int)) (es : Array (Int × Value)) (ep : Nat) (t : SetTable) : Prop where
  ob : ∃ o, h.get? a = some o ∧ o.ExactSet ∧ o.data = .set es ep t
  rows : es.toList = rowsOf P w L
  tab : TabB t (L.map fun p => thash P w p.2)
  nd : (L.map (·.2)).Nodup
  tup : ∀ p ∈ L, IsT P w h p.2 p.1
  plain : t.plain = true
  led : w.params.followText "set-order" = true ∨ t.led = true
  room : L.length * 5 < t.mask * 3
  kind : t.mask = 7 ∨ t.mask = 31 ∨ t.mask = 127 ∨ t.mask = 511
section
variable {P : Program} {w : World} {A : Around} {E : Value → Shared → Prop} {s : Shared} {a : Addr} {L : List (Addr × List Int)} {es : Array (Int × Value)} {ep : Nat} {t : SetTable}
theorem rows_size (h : es.toList = rowsOf P w L) : es.size = L.length := by
  rw [← Array.length_toList, h, rowsOf, List.length_map]
theorem SetB.size (R : SetB P w s.heap a L es ep t) : es.size = L.length := rows_size R.rows
theorem fits_of (hs : t.place.size = es.size) (hd : t.dummies = #[]) (hl : es.size ≤ t.mask) : t.fits es.size = true := by
  unfold SetTable.fits SetTable.fill
  rw [hd, hs]
  simp [hl]
theorem SetB.psz (R : SetB P w s.heap a L es ep t) : t.place.size = L.length := R.tab.sz.trans (List.length_map ..)
theorem SetB.fits (R : SetB P w s.heap a L es ep t) : t.fits es.size = true := by
  have h3 := R.room
  refine fits_of (R.psz.trans R.size.symm) R.tab.dm ?_
  rw [R.size]
  omega
theorem SetB.at_ (R : SetB P w s.heap a L es ep t) {i : Nat} {j : Nat} (h : t.place.toList[i]? = some j) : ∃ p, L[i]? = some p := by
  have h1 := (List.getElem?_eq_some_iff.mp h).1
  rw [Array.length_toList, R.psz] at h1
  exact ⟨L[i], List.getElem?_eq_getElem h1⟩
theorem SetB.keep {h h' : Heap} {a : Addr} (R : SetB P w h a L es ep t) (ha : ∀ o, h.get? a = some o → h'.get? a = some o) (ht : ∀ p ∈ L, IsT P w h' p.2 p.1) : SetB P w h' a L es ep t :=
  { R with ob := let ⟨o, ho, r⟩ := R.ob; ⟨o, ha o ho, r⟩, tup := ht }
end
/-- how many are in the set at a -/
structure SetN (w : World) (h : Heap) (a : Addr) (n : Nat) : Prop where
  ex : ∃ (o : Obj) (es : Array (Int × Value)) (ep : Nat) (t : SetTable), h.get? a = some o ∧ o.ExactSet ∧ o.data = .set es ep t ∧ t.fits es.size = true ∧ es.size = n ∧ n ≤ 1000
theorem SetB.num {P : Program} {w : World} {h : Heap} {a : Addr} {L : List (Addr × List Int)} {es : Array (Int × Value)} {ep : Nat} {t : SetTable} (R : SetB P w h a L es ep t) : SetN w h a L.length := by
  have ⟨o, ho, hex, hd⟩ := R.ob
  have h3 := R.room
  have h4 := R.tab.mb.hi
  have hs := rows_size R.rows
  exact ⟨o, es, ep, t, ho, hex, hd, fits_of ((R.tab.sz.trans (List.length_map ..)).trans hs.symm) R.tab.dm (by omega), hs, by omega⟩
section
variable {ε α β : Type} {M : Mx} {R : ERep ε}
theorem Sw.hs {ns : List Nat} {n : Nat} {q : ORep α} {l : Ln ε α} {R' : ERep ε} (h : Sw R R' n q l) : Sw (eHs ns R) (eHs ns R') n q l := ⟨fun ⟨a, b⟩ hs hq => ⟨h.to a hs hq, b⟩, fun ⟨a, b⟩ => ⟨h.bk a, b⟩⟩
end
section
variable {ν α β γ ε ρ ι κ : Type} {M : Mx} {R R' : ERep ε} {F : Frm} {G G' H H' : Hp} {σ : Sg} {n : Nat} {own : Frm → Addr → Prop} {K : PySem.W.Frag} {rr : RS V ρ}
/-- a name and a new object, both changed, the second dropped -/
def mCallMT (l : Ln ε ι) (f : ι × β × Unit → α → Rs (ι × β × Unit) ρ) (ml : ε → Rs ε β) (m : ε → Rs ε α) : ε → Rs ε ρ := fun e => match l.get e with
  | none => .bad
  | some _ => (ml e).bind fun g e1 => (m e1).bind fun a e2 => match l.get e2 with
    | none => .bad
    | some st => match f (st, g, ()) a with
      | .ok b st' => .ok b (l.put (some st'.1) (l.put none e2))
      | _ => .bad
end
section
variable {α β ε ρ ι κ : Type}
theorem rp_callMT {l : Ln ε ι} {f : ι × β × Unit → α → Rs (ι × β × Unit) ρ} {ml : ε → Rs ε β} {m : ε → Rs ε α} {e : ε} {Q : ρ → ε → Prop} : RsP (mCallMT l f ml m e) Q = OpP (l.get e) fun _ => RsP (ml e) fun g e1 => RsP (m e1) fun a e2 => OpP (l.get e2) fun st => RsP (f (st, g, ()) a) fun b st' => Q b (l.put (some st'.1) (l.put none e2)) := by
  unfold mCallMT
  simp only [RsP_eq, OpP_eq]
  cases l.get e with
  | none => rfl
  | some st0 =>
    show RsP0 ((ml e).bind _) Q = RsP0 (ml e) _
    cases ml e with
    | ex c e1 => rfl
    | bad => rfl
    | ok g e1 =>
      rw [Rs.bind_ok]
      show RsP0 ((m e1).bind _) Q = RsP0 (m e1) _
      cases m e1 with
      | ex c e2 => rfl
      | bad => rfl
      | ok a e2 =>
        rw [Rs.bind_ok]
        show _ = OpP0 (l.get e2) _
        cases l.get e2 with
        | none => rfl
        | some st =>
          dsimp only [OpP0]
          cases f (st, g, ()) a <;> rfl
end
section
variable {ν α β γ ε ρ ι κ : Type} {M : Mx} {R R' : ERep ε} {F : Frm} {G G' H H' : Hp} {σ : Sg} {n : Nat} {K : PySem.W.Frag}
def foldWK (x : (List Int × List Int) ⊕ (List Int × List Int)) : Option (List Int × List Int) := some (match x with | .inl a => a | .inr b => b)
def asT3 (t : Th) : Option (Th × Th × Th) := (asT t).bind fun xs => match xs with
  | [x, y, z] => some (x, y, z)
  | _ => none
end
section
variable {K : PySem.W.Frag}
theorem flat_strs (ss : List Str) : (ss.map V.str).all flatV = true := by
  rw [List.all_eq_true]
  intro v hv
  obtain ⟨s, _, rfl⟩ := List.mem_map.mp hv
  rfl
theorem inV_str (x : Str) (ss : List Str) : inV (.str x) (ss.map V.str) = decide (x ∈ ss) := by
  unfold inV
  rw [List.any_map, Bool.eq_iff_iff, List.any_eq_true, decide_eq_true_eq]
  constructor
  · rintro ⟨y, hy, h⟩
    have h : decide (y = x) = true := by
      have h2 : eqV (.str y) (.str x) = true := h
      unfold eqV at h2
      simpa using h2
    exact of_decide_eq_true h ▸ hy
  · intro h
    refine ⟨x, h, ?_⟩
    show eqV (.str x) (.str x) = true
    unfold eqV
    simp
theorem v_inTS : VR2 K (rIn K false) (ir rS) (rd (oT rS)) rB gIn := fun G H v w a b c Q s h1 ⟨L, ho, h2, h3, vs, h4, h5⟩ hg k => by
  subst h2 h4; cases h1; cases hg
  obtain rfl := strs_of h5
  exact ⟨L, _, rfl, .inr (sqt_h h3), rfl, flat_strs b, by rw [if_neg (by decide), inV_str]; exact k _ G H (.refl s) rfl⟩
theorem v_ninLS : VR2 K (rIn K true) (ir rS) (rd (oL rS)) rB gNin := fun G H v w a b c Q s h1 ⟨L, ho, h2, h3, vs, h4, h5⟩ hg k => by
  subst h2 h4; cases h1; cases hg
  obtain rfl := strs_of h5
  exact ⟨L, _, rfl, .inl (sql_h h3), rfl, flat_strs b, by rw [if_pos rfl, inV_str]; exact k _ G H (.refl s) rfl⟩
end
/-- how a name's value is held -/
structure HoldR (α : Type) where
  rel : PySem.W.Frag → Frm → Hp → V → α → Prop
  mono : ∀ {K F G G' v a}, Sub G G' → rel K F G v a → rel K F G' v a
  lk : ∀ {K F G v a D o}, rel K F G v a → rel K (F.lock D o) G v a
  ul : ∀ {K F G v a D o}, rel K (F.lock D o) G v a → rel K F G v a
/-- held by what was frozen as the scope began -/
def hP {α : Type} (r : Rep α) : HoldR α := ⟨fun K F _ v a => r.rel K F.G0 v a, fun _ h => h, fun h => h, fun h => h⟩
/-- its lists are new in the scope -/
def NewL (F : Frm) (Gx : Hp) : Prop := ∀ b vs, Gx b = some (.lst vs) → F.H0 b = none
def hN {α : Type} (r : Rep α) : HoldR α := ⟨fun K F G v a => ∃ Gx, Sub Gx G ∧ NewL F Gx ∧ r.rel K Gx v a, fun s ⟨Gx, h1, h2, h3⟩ => ⟨Gx, h1.trans s, h2, h3⟩, fun h => h, fun h => h⟩
section
variable {α β ε ρ ν : Type} {R : ERep ε} {n : Nat} {r : Rep α} {q : ORep α} {own own' : Frm → Addr → Prop} [op : OwnP own] [op' : OwnP own'] {l : Ln ε α} {r' : Rep β} {q' : ORep β} {h : HoldR α} {h' : HoldR β} {M : Mx}
def eH (h : HoldR α) (R : ERep ε) : ERep (Option α × ε) :=
  ⟨fun K F G H σ e => ∃ o σ', σ = o :: σ' ∧ (∀ x, e.1 = some x → ∃ v, o = some v ∧ h.rel K F G v x) ∧ R.rel K F G H σ' e.2, fun g hh n ⟨o, σ', h1, h2, h3⟩ =>
    ⟨o, σ', h1, fun x hx => let ⟨v, a, b⟩ := h2 x hx; ⟨v, a, h.mono g b⟩, R.mono g hh n h3⟩,
   fun ⟨o, σ', h1, h2, h3⟩ => ⟨o, σ', h1, fun x hx => let ⟨v, a, b⟩ := h2 x hx; ⟨v, a, h.lk b⟩, R.lock h3⟩, fun ⟨o, σ', h1, h2, h3⟩ => ⟨o, σ', h1, fun x hx => let ⟨v, a, b⟩ := h2 x hx; ⟨v, a, h.ul b⟩, R.unlock h3⟩⟩
structure HdAt (R : ERep ε) (n : Nat) (h : HoldR α) (l : Ln ε α) : Prop where
  rd : ∀ {K F G H σ e a}, R.rel K F G H σ e → l.get e = some a → ∃ v, σ[n]? = some (some v) ∧ h.rel K F G v a
  wr : ∀ {K F G H σ e a v}, R.rel K F G H σ e → h.rel K F G v a → R.rel K F G H (σ.set n (some v)) (l.put (some a) e)
  kl : ∀ {K F G H σ e}, R.rel K F G H σ e → R.rel K F G H σ (l.put none e)
theorem HdAt.z : HdAt (eH h R) 0 h Ln.z := by
  refine ⟨?_, ?_, ?_⟩
  · rintro K F G H σ e a ⟨o, σ', rfl, h2, h3⟩ hh
    obtain ⟨v, rfl, hv⟩ := h2 a hh
    exact ⟨v, rfl, hv⟩
  · rintro K F G H σ e a v ⟨o, σ', rfl, h2, h3⟩ hh
    exact ⟨some v, σ', rfl, fun x hx => ⟨v, rfl, by cases hx; exact hh⟩, h3⟩
  · rintro K F G H σ e ⟨o, σ', rfl, h2, h3⟩
    exact ⟨o, σ', rfl, fun x hx => (nomatch hx), h3⟩
theorem HdAt.sF (a : HdAt R n h l) : HdAt (eFr r' R) (n + 1) h (Ln.s l) := by
  refine ⟨?_, ?_, ?_⟩
  · rintro K F G H σ e b ⟨o, σ', rfl, h2, h3⟩ hh
    exact a.rd h3 hh
  · rintro K F G H σ e b v ⟨o, σ', rfl, h2, h3⟩ hh
    exact ⟨o, _, rfl, h2, a.wr h3 hh⟩
  · rintro K F G H σ e ⟨o, σ', rfl, h2, h3⟩
    exact ⟨o, _, rfl, h2, a.kl h3⟩
theorem HdAt.sH (a : HdAt R n h l) : HdAt (eH h' R) (n + 1) h (Ln.s l) := by
  refine ⟨?_, ?_, ?_⟩
  · rintro K F G H σ e b ⟨o, σ', rfl, h2, h3⟩ hh
    exact a.rd h3 hh
  · rintro K F G H σ e b v ⟨o, σ', rfl, h2, h3⟩ hh
    exact ⟨o, _, rfl, h2, a.wr h3 hh⟩
  · rintro K F G H σ e ⟨o, σ', rfl, h2, h3⟩
    exact ⟨o, _, rfl, h2, a.kl h3⟩
theorem FrAt.sH (a : FrAt R n r l) : FrAt (eH h' R) (n + 1) r (Ln.s l) := by
  refine ⟨?_, ?_, ?_, ?_, ?_⟩
  · rintro K F G H σ e a' ⟨o, σ', rfl, h2, h3⟩ hh
    exact a.rd h3 hh
  · rintro K F G H σ e a' v ⟨o, σ', rfl, h2, h3⟩ hh
    exact ⟨o, _, rfl, h2, a.wr h3 hh⟩
  · rintro K F G H σ e ⟨o, σ', rfl, h2, h3⟩
    exact ⟨o, _, rfl, h2, a.kl h3⟩
  · rintro K F G H σ e ⟨o, σ', rfl, h2, h3⟩
    exact ⟨o, _, rfl, h2, a.wn h3⟩
  · rintro K F G H G' H' σ e e' ⟨o, σ', rfl, h2, h3⟩ s ⟨o', σ'', h4, h5, h6⟩
    obtain ⟨rfl, rfl⟩ := List.cons.inj h4
    exact ⟨_, _, rfl, h5, a.rs h3 s h6⟩
/-- the names within a scope: what was frozen as it began, stood then -/
def eS (R : ERep ε) : ERep ε := ⟨fun K F G H σ e => Sub F.G0 F.H0 ∧ R.rel K F G H σ e, fun g h n ⟨t, r⟩ => ⟨t, R.mono g h n r⟩, fun ⟨t, r⟩ => ⟨t, R.lock r⟩, fun ⟨t, r⟩ => ⟨t, R.unlock r⟩⟩
theorem HdAt.sS (a : HdAt R n h l) : HdAt (eS R) n h l := ⟨fun ⟨_, b⟩ e => a.rd b e, fun ⟨t, b⟩ e => ⟨t, a.wr b e⟩, fun ⟨t, b⟩ => ⟨t, a.kl b⟩⟩
theorem FrAt.sS (h : FrAt R n r l) : FrAt (eS R) n r l :=
  ⟨fun ⟨_, b⟩ e => h.rd b e, fun ⟨t, b⟩ e => ⟨t, h.wr b e⟩, fun ⟨t, b⟩ => ⟨t, h.kl b⟩, fun ⟨t, b⟩ => ⟨t, h.wn b⟩, fun ⟨_, b⟩ s ⟨t, b'⟩ => ⟨t, h.rs b s b'⟩⟩
theorem Kl.hd {h : HoldR α} (a : HdAt R n h l) : Kl R (l.put none) := ⟨a.kl⟩
def nf (r : Rep α) : RS V α := ⟨fun K F G H v a H1 => (hN r).rel K F G v a ∧ H1 = H⟩
theorem x_varN {r : Rep α} (at' : HdAt R n (hN r) l) : EX M R (tVar n) (nf r) (mVar l) := fun F G H σ e i hR Q p => by
  obtain ⟨b, hb, p2⟩ := of_some p
  obtain ⟨v, h1, h2⟩ := at'.rd hR hb
  exact ⟨v, h1, p2 v G H H i .refl ⟨h2, rfl⟩ hR⟩
theorem x_nf {t : TE} {r : Rep α} {m : ε → Rs ε α} (h : EX M R t (nf r) m) : EX M R t (fz r) m := fun F G H σ e i hR Q p => by
  refine h F G H σ e i hR Q ?_
  revert p
  cases m e with
  | ok a e' => exact fun p v G' H' H1 i1 s1 ⟨⟨Gx, z1, z2, z3⟩, z4⟩ R1 => p v G' H' H1 i1 s1 ⟨r.mono z1 z3, z4⟩ R1
  | ex c e' => exact id
  | bad => exact id
/-- without the lists -/
def noL (G : Hp) : Hp := fun b => match G b with | some (.lst _) => none | x => x
theorem noL_kept {G : Hp} : Kept G (noL G) := fun b o e hn => by
  show (match G b with | some (.lst _) => none | x => x) = some o
  rw [e]
  cases o <;> first | rfl | exact absurd rfl (hn _)
theorem noL_some {G : Hp} {b : Addr} {o : HO} (e : noL G b = some o) : G b = some o ∧ NonL o := by
  have e : (match G b with | some (.lst _) => none | x => x) = some o := e
  cases hb : G b with
  | none => rw [hb] at e; cases e
  | some u =>
    rw [hb] at e
    cases u <;> first | (cases e; done) | (cases e; exact ⟨rfl, fun vs z => nomatch z⟩)
theorem noL_sub {G : Hp} : Sub (noL G) G := fun b o e => (noL_some e).1
structure ArgSt (ra : IR (List V) α) : Prop where
  st : ∀ {K G G' H vs a}, Kept G G' → Sub G' H → ra K G H vs a → ra K G' H vs a
theorem ast_one {r : Rep α} (h : StR r) : ArgSt (aOne (ir r)) := ⟨fun k _ ⟨v, h1, h2⟩ => ⟨v, h1, h k h2⟩⟩
theorem x_callNw {t : TA} {ra : IR (List V) α} {r : Rep β} {f : α → Rs Unit β} {m : ε → Rs ε α} (ar : ArgSt ra) (h : EX M R t (is ra) m) : EX M R (tCall (spD M.K M.cx ra (fz r) f) [] M.E t) (nf r) (mCall f m) := fun F G H σ e i hR Q p =>
  h F G H σ e i hR _ (p.bind is_h fun vs a e1 G1 H1 i1 s1 R1 r1 p1 => by
    rw [List.append_nil]
    have sN : Sub (noL G1) H1 := noL_sub.trans i1.gh
    refine ⟨noL G1, a, ⟨sN, fun b xs hb => noL_kept _ _ (i1.tp b xs hb) fun vs z => nomatch z⟩, ar.st noL_kept sN r1.1, ?_⟩
    revert p1
    cases f a with
    | ok b u =>
      intro p1 v G' H' Hx j hr
      -- what stood frozen and what is told, together
      let G2 : Hp := fun b => match G1 b with | some o => some o | none => G' b
      have hH : Sub H1 H' := fun b o e => j.fr b o List.not_mem_nil e
      have g1 : Sub G1 G2 := fun b o e => by show (match G1 b with | some o => some o | none => G' b) = some o; rw [e]
      have g0 : ∀ b, G1 b = none → G2 b = G' b := fun b e => by show (match G1 b with | some o => some o | none => G' b) = G' b; rw [e]
      have g2 : Sub G' G2 := fun b o e => by
        cases z : G1 b with
        | none => rw [g0 b z]; exact e
        | some u =>
          rw [g1 b u z]
          have e1 := hH b u (i1.gh b u z)
          have e2 := j.gh b o e
          rw [e1] at e2
          exact e2
      have nw : ∀ b, H1 b ≠ none → G2 b ≠ none → G1 b ≠ none := fun b h1 h2 z => by
        rw [g0 b z] at h2
        have := j.new b h1 h2
        obtain ⟨o, ho⟩ : ∃ o, noL G1 b = some o := Option.ne_none_iff_exists'.mp this
        rw [(noL_some ho).1] at z
        cases z
      have iv : IV F G2 H' := by
        refine ⟨fun b o e => ?_, i1.g0.trans g1, fun b h1 h2 => i1.new b h1 (nw b (i1.al b h1) h2), fun b o h1 h2 => hH b o (i1.fr b o h1 h2), fun b h => hH.ne (i1.al b h), i1.xs.trans hH, fun b h => ?_, i1.ys.trans hH, fun b h => ?_, fun b xs hb => ?_⟩
        · cases z : G1 b with
          | none => rw [g0 b z] at e; exact j.gh b o e
          | some o1 =>
            rw [g1 b o1 z] at e
            cases e
            exact hH b _ (i1.gh b _ z)
        · cases z : G2 b with
          | none => rfl
          | some o => exact absurd (i1.xg b h) (nw b (i1.xs.ne h) (by rw [z]; intro z; cases z))
        · cases z : G2 b with
          | none => rfl
          | some o => exact absurd (i1.yg b h) (nw b (i1.ys.ne h) (by rw [z]; intro z; cases z))
        · exact g2 _ _ (j.tp b xs hb)
      refine p1 v G2 H' H' iv g1 ⟨⟨G', g2, fun b vs e => ?_, hr.1⟩, rfl⟩ (R.mono g1 hH (fun b h1 h2 => nw b h1 h2) R1)
      cases z : F.H0 b with
      | none => rfl
      | some o =>
        have h1 := i1.al b (by rw [z]; intro z; cases z)
        have h2 := j.new b h1 (by rw [e]; intro z; cases z)
        obtain ⟨u, hu⟩ : ∃ u, noL G1 b = some u := Option.ne_none_iff_exists'.mp h2
        have h3 := j.g0 b u hu
        rw [e] at h3
        cases h3
        exact absurd rfl ((noL_some hu).2 vs)
    | ex c u => exact id
    | bad => exact id)
theorem s_setN {rr : RS V ρ} {t : TE} {r : Rep α} {m : ε → Rs ε α} (at' : HdAt R n (hN r) l) (h : EX M R t (nf r) m) : SX M R rr (tAsg t (gName n)) (mSet l m) := fun F G H σ e i hR D p =>
  h F G H σ e i hR _ (p.so fun v a e1 G1 H1 H1' i1 s1 hr R1 p1 => p1 _ G1 H1 i1 .refl (at'.wr (hr.2 ▸ R1) hr.1))
/-- what stood or is frozen as a scope begins -/
def scH (F : Frm) (G H : Hp) : Hp := fun b => match F.H0 b with
  | some _ => H b
  | none => match G b with | some _ => H b | none => none
structure ScF (F F' : Frm) (G : Hp) : Prop where
  g0 : F'.G0 = G
  ws : F'.ws = F.ws
  X : F'.X = F.X
  Y : F'.Y = F.Y
  no : ∀ b, F.H0 b = none → G b = none → F'.H0 b = none
  yes : ∀ b, F.H0 b ≠ none → F'.H0 b ≠ none
/-- the names outside, the names within, what is known of them as it begins -/
structure ScP (R R' : ERep ε) (k : ε → ε) : Prop where
  inn : ∀ {K F F' G H σ e}, ScF F F' G → R.rel K F G H σ e → R'.rel K F' G H σ (k e)
  out : ∀ {K F F' G G' H' σ e}, ScF F F' G → Sub G G' → R'.rel K F' G' H' σ e → R.rel K F G' H' σ e
theorem ScP.nil : ScP eNil eNil id := ⟨fun _ h => h, fun _ _ h => h⟩
theorem ScP.fr {R' : ERep ε} {k : ε → ε} (a : ScP R R' k) : ScP (eFr r R) (eFr r R') (fun e => (e.1, k e.2)) :=
  ⟨fun c ⟨o, σ', h1, h2, h3⟩ => ⟨o, σ', h1, h2, a.inn c h3⟩, fun c s ⟨o, σ', h1, h2, h3⟩ => ⟨o, σ', h1, h2, a.out c s h3⟩⟩
theorem ScP.pa {R' : ERep ε} {k : ε → ε} (a : ScP R R' k) : ScP (eFr r R) (eH (hP r) R') (fun e => (e.1, k e.2)) :=
  ⟨fun {K F F' G H σ e} c ⟨o, σ', h1, h2, h3⟩ => ⟨o, σ', h1, fun x hx => let ⟨v, a1, b1⟩ := h2 x hx; ⟨v, a1, show r.rel K F'.G0 v x by rw [c.g0]; exact b1⟩, a.inn c h3⟩,
   fun {K F F' G G' H' σ e} c s ⟨o, σ', h1, h2, h3⟩ => ⟨o, σ', h1, fun x hx => let ⟨v, a1, b1⟩ := h2 x hx; ⟨v, a1, r.mono s (by have b1 : r.rel K F'.G0 v x := b1; rw [c.g0] at b1; exact b1)⟩, a.out c s h3⟩⟩
theorem ScP.nw {R' : ERep ε} {k : ε → ε} (a : ScP R R' k) : ScP (eFr r R) (eH (hN r) R') (fun e => (none, k e.2)) :=
  ⟨fun c ⟨o, σ', h1, h2, h3⟩ => ⟨o, σ', h1, fun x hx => (nomatch hx), a.inn c h3⟩,
   fun c s ⟨o, σ', h1, h2, h3⟩ => ⟨o, σ', h1, fun x hx => let ⟨v, a1, Gx, b1, _, b3⟩ := h2 x hx; ⟨v, a1, r.mono b1 b3⟩, a.out c s h3⟩⟩
/-- how a name owns: what is own outside is own within -/
class OwnS (own : Frm → Addr → Prop) : Prop where
  inn : ∀ {F F' G L}, ScF F F' G → G L = none → own F L → own F' L
  out : ∀ {F F' G L}, ScF F F' G → own F' L → own F L
instance ownN_s : OwnS ownN := ⟨fun c g h => ⟨c.no _ h.1 g, by rw [c.X]; exact h.2.1, by rw [c.Y]; exact h.2.2⟩, fun {F F' G L} c h => ⟨by
  cases z : F.H0 L with
  | none => rfl
  | some o => exact absurd h.1 (c.yes L (by rw [z]; intro z; cases z)), by rw [← c.X]; exact h.2.1, by rw [← c.Y]; exact h.2.2⟩⟩
instance ownI_s {k : Nat} : OwnS (ownI k) := ⟨fun c _ h => ⟨by rw [c.ws]; exact h.1, by rw [c.X]; exact h.2.1, by rw [c.Y]; exact h.2.2⟩, fun c h => ⟨by rw [← c.ws]; exact h.1, by rw [← c.X]; exact h.2.1, by rw [← c.Y]; exact h.2.2⟩⟩
def mScope (k : ε → ε) (m : ε → So ε ρ) : ε → So ε ρ := fun e => m (k e)
theorem s_scope {R' : ERep ε} {k : ε → ε} {r' : GR V ρ} {t : TS} {m : ε → So ε ρ} (sc : ScP R R' k) (h : SXW M (eS R') (fz r') t m) : SX M R (fz r') t (mScope k m) := fun F G H σ e i hR D p => by
  let F' : Frm := ⟨G, scH F G H, F.ws, F.X, F.Y⟩
  have hs : ∀ b o, scH F G H b = some o → H b = some o := fun b o e => by
    unfold scH at e
    cases z : F.H0 b with
    | some u => rw [z] at e; exact e
    | none =>
      rw [z] at e
      dsimp only at e
      cases z2 : G b with
      | some u => rw [z2] at e; exact e
      | none => rw [z2] at e; cases e
  have h0 : ∀ b, F.H0 b ≠ none → scH F G H b = H b := fun b hb => by
    unfold scH
    cases z : F.H0 b with
    | some u => rfl
    | none => exact absurd z hb
  have hg : ∀ b, G b ≠ none → scH F G H b = H b := fun b hb => by
    unfold scH
    cases z : F.H0 b with
    | some u => rfl
    | none =>
      dsimp only
      cases z2 : G b with
      | some u => rfl
      | none => exact absurd z2 hb
  have c : ScF F F' G := ⟨rfl, rfl, rfl, rfl, fun b h1 h2 => by
    show scH F G H b = none
    unfold scH
    rw [h1]
    dsimp only
    rw [h2], fun b hb => by
      show scH F G H b ≠ none
      rw [h0 b hb]
      exact i.al b hb⟩
  have sg : Sub G (scH F G H) := fun b o e => by rw [hg b (by rw [e]; intro z; cases z)]; exact i.gh b o e
  have i' : IV F' G H := ⟨i.gh, .refl, fun _ _ h => h, fun b o _ h => hs b o h, fun b h => (by
    obtain ⟨o, ho⟩ : ∃ o, scH F G H b = some o := Option.ne_none_iff_exists'.mp h
    rw [hs b o ho]
    intro z
    cases z), i.xs, i.xg, i.ys, i.yg, i.tp⟩
  have back : ∀ {G' H'}, IV F' G' H' → IV F G' H' := fun {G' H'} j => ⟨j.gh, i.g0.trans j.g0, fun b h1 h2 => i.new b h1 (j.new b (c.yes b h1) h2), fun b o h1 h2 => j.fr b o h1 (by
    show scH F G H b = some o
    rw [h0 b (by rw [h2]; intro z; cases z)]
    exact i.fr b o h1 h2), fun b hb => j.al b (c.yes b hb), j.xs, j.xg, j.ys, j.yg, j.tp⟩
  refine h F' G H σ (k e) i' ⟨sg, sc.inn c hR⟩ D ?_
  unfold mScope at p
  revert p
  cases m (k e) with
  | nx e1 => exact fun p σ' G' H' j r1 => p σ' G' H' (back j) j.g0 (sc.out c j.g0 r1.2)
  | bk e1 => exact fun p σ' G' H' j r1 => p σ' G' H' (back j) j.g0 (sc.out c j.g0 r1.2)
  | ct e1 => exact fun p σ' G' H' j r1 => p σ' G' H' (back j) j.g0 (sc.out c j.g0 r1.2)
  | rt a e1 => exact fun p v σ' G' H' H1 j hr r1 => p v σ' G' H' H1 (back j) j.g0 hr (sc.out c j.g0 r1.2)
  | ex x e1 => exact fun p cls d σ' G' H' j r1 hx => p cls d σ' G' H' (back j) j.g0 (sc.out c j.g0 r1.2) hx
  | bad => exact id
variable {F : Frm} {G H H' : Hp}
theorem wild_goN {S : Addr → Prop} (i : IV F G H) (z : Sub F.G0 F.H0) (hS : ∀ b, S b → F.H0 b = none ∧ ∃ vs, G b = some (.lst vs)) (h1 : ∀ b, ¬ S b → H' b = H b) (h2 : ∀ b, S b → ∃ vs, H' b = some (.lst vs)) :
    ∃ G', IV F G' H' ∧ Kept G G' ∧ (∀ b, G' b ≠ none → G b ≠ none) ∧ ∀ b o, G b = none → H b = some o → H' b = some o := by
  have keep : ∀ b o, H b = some o → (F.H0 b ≠ none ∨ ∀ vs, G b ≠ some (.lst vs)) → H' b = some o := fun b o e hn => by
    rw [h1 b fun hb => by
      obtain ⟨a, vs, h⟩ := hS b hb
      rcases hn with hn | hn
      · exact hn a
      · exact hn vs h]
    exact e
  have alv : ∀ b, H b ≠ none → H' b ≠ none := fun b hb => by
    by_cases hm : S b
    · obtain ⟨vs, h⟩ := h2 b hm
      rw [h]
      intro z
      cases z
    · rw [h1 b hm]
      exact hb
  let G' : Hp := fun b => match F.H0 b with
    | some _ => G b
    | none => noL G b
  have ga : ∀ b, F.H0 b ≠ none → G' b = G b := fun b hb => by
    show (match F.H0 b with | some _ => G b | none => noL G b) = G b
    cases z : F.H0 b with
    | some o => rfl
    | none => exact absurd z hb
  have gb : ∀ b, F.H0 b = none → G' b = noL G b := fun b hb => by
    show (match F.H0 b with | some _ => G b | none => noL G b) = noL G b
    rw [hb]
  have g1 : Kept G G' := fun b o e hn => by
    by_cases z : F.H0 b = none
    · rw [gb b z]; exact noL_kept b o e hn
    · rw [ga b z]; exact e
  have g2 : ∀ b o, G' b = some o → G b = some o ∧ (F.H0 b ≠ none ∨ NonL o) := fun b o e => by
    by_cases z : F.H0 b = none
    · rw [gb b z] at e
      exact ⟨(noL_some e).1, .inr (noL_some e).2⟩
    · rw [ga b z] at e
      exact ⟨e, .inl z⟩
  have g3 : ∀ b, G' b ≠ none → G b ≠ none := fun b hb => by
    cases e : G' b with
    | none => exact absurd e hb
    | some o => rw [(g2 b o e).1]; intro z; cases z
  have nol : ∀ b, G b = none → ∀ vs, G b ≠ some (.lst vs) := fun b e vs h => by rw [e] at h; cases h
  refine ⟨G', ⟨fun b o e => ?_, fun b o e => ?_, fun b h3 h4 => i.new b h3 (g3 b h4), fun b o h3 h4 => ?_, fun b h3 => alv b (i.al b h3), fun b o e => ?_, fun b h3 => ?_, fun b o e => ?_, fun b h3 => ?_, fun b xs e => ?_⟩, g1, g3, fun b o g e => keep b o e (.inr (nol b g))⟩
  · obtain ⟨e1, e2⟩ := g2 b o e
    exact keep b o (i.gh b o e1) (e2.imp id fun e2 vs z => by rw [e1] at z; cases z; exact e2 vs rfl)
  · rw [ga b (by rw [z b o e]; intro z; cases z)]
    exact i.g0 b o e
  · exact keep b o (i.fr b o h3 h4) (.inl (by rw [h4]; intro z; cases z))
  · exact keep b o (i.xs b o e) (.inr (nol b (i.xg b (by rw [e]; intro z; cases z))))
  · cases e : G' b with
    | none => rfl
    | some o => exact absurd (i.xg b h3) (by rw [(g2 b o e).1]; intro z; cases z)
  · exact keep b o (i.ys b o e) (.inr (nol b (i.yg b (by rw [e]; intro z; cases z))))
  · cases e : G' b with
    | none => rfl
    | some o => exact absurd (i.yg b h3) (by rw [(g2 b o e).1]; intro z; cases z)
  · by_cases hm : S b
    · obtain ⟨vs, h⟩ := h2 b hm
      rw [h] at e
      cases e
    · rw [h1 b hm] at e
      exact g1 b _ (i.tp b xs e) fun vs z => nomatch z
theorem Stb.pa {k : ε → ε} (a : Stb R k) : Stb (eH (hP r) R) (fun e => (e.1, k e.2)) := ⟨fun a1 b c ⟨o, σ', h1, h2, h3⟩ => ⟨o, σ', h1, h2, a.st a1 b c h3⟩⟩
theorem Stb.hdK {k : ε → ε} (a : Stb R k) : Stb (eH h R) (fun e => (none, k e.2)) := ⟨fun a1 b c ⟨o, σ', h1, h2, h3⟩ => ⟨o, σ', h1, fun x hx => (nomatch hx), a.st a1 b c h3⟩⟩
end
section
variable {ν ν' α β γ ε ρ : Type} {M : Mx} {R : ERep ε} {F : Frm} {G G' G1 H H' : Hp} {σ : Sg} {n : Nat} {rr : RS V ρ} {K : PySem.W.Frag}
/-- what a suite's line does: it goes on, or raises to the clauses -/
def PostT (M : Mx) (R : ERep ε) (F : Frm) (G : Hp) (W : WX) (D : Ends) : So ε ρ → Prop
  | .nx e => ∀ σ' G' H', IV F G' H' → Sub G G' → R.rel M.K F G' H' σ' e → D.nx σ' H'
  | .ex c e => ∀ cls d σ' G' H', IV F G' H' → Sub G G' → R.rel M.K F G' H' σ' e → xr M G' c cls d → W cls d σ' H'
  | _ => False
theorem PostT.up {W : WX} {D : Ends} {x : So ε ρ} (h : PostT M R F G W D x) (s : Sub G G1) : PostT M R F G1 W D x := by
  cases x with
  | nx e => exact fun σ' G' H' i z => h σ' G' H' i (s.trans z)
  | ex c e => exact fun cls d σ' G' H' i z => h cls d σ' G' H' i (s.trans z)
  | bk e => exact h
  | ct e => exact h
  | rt a e => exact h
  | bad => exact h
theorem sp_scope {k : ε → ε} {m : ε → So ε ρ} {e : ε} {N C B : ε → Prop} {T : ρ → ε → Prop} (h : SoP (m (k e)) N C B T) : SoP (mScope k m e) N C B T := h
end
open PySem PySem.Spec PyProof.Rows L2 PySem.SeqAt PySem.W
section
variable {X : Cx} {K : PySem.W.Frag} {α : Type}
def gMin2L (p : List Int × List Int) : Option (List Int) := some (if p.2 < p.1 then p.2 else p.1)
end
section
variable {α β γ ε ρ : Type} {M : Mx} {R R' : ERep ε} {n : Nat} {r : Rep β} {r' : Rep α} {r'' : Rep γ} {q : ORep α} {q' : ORep γ} {own own' : Frm → Addr → Prop} [op : OwnP own] [op' : OwnP own'] {l : Ln ε α} {rr : RS V ρ}
/-- a name that was own is held frozen -/
structure Swf (R R' : ERep ε) (n : Nat) (r : Rep α) (l : Ln ε α) : Prop where
  to : ∀ {K F G H σ e v a}, R.rel K F G H σ e → l.get e = none → σ[n]? = some (some v) → r.rel K G v a → R'.rel K F G H σ (l.put (some a) e)
  bk : ∀ {K F G H σ e}, R'.rel K F G H σ e → R.rel K F G H σ (l.put none e)
theorem Swf.z : Swf (eOwP own q R) (eFr r' R) 0 r' Ln.z := by
  refine ⟨?_, ?_⟩
  · rintro K F G H σ e v a ⟨o, σ', rfl, ⟨z, w⟩ | ⟨x, L, ho, a1, a2, a3, a4, a5, a6, a7⟩⟩ hn hs hr
    · have hs : o = some v := by simpa using hs
      subst hs
      exact ⟨_, σ', rfl, fun x hx => ⟨v, rfl, by cases hx; exact hr⟩, w⟩
    · have hn : e.1 = none := hn
      rw [hn] at a1
      cases a1
  · rintro K F G H σ e ⟨o, σ', rfl, h2, h3⟩
    exact ⟨o, σ', rfl, .inl ⟨rfl, h3⟩⟩
end
open LamX (CodeO)
section
variable {ν ν' α β γ ε ρ ι : Type} {M : Mx} {R R2 : ERep ε} {F : Frm} {G G1 H H1 : Hp} {σ : Sg} {D : Ends} {n : Nat} {r : Rep α}
/-- the names as a lambda sees them: what may change is gone, what is held otherwise is frozen -/
structure Wk2 (R R2 : ERep ε) (kl : ε → ε) : Prop where
  go : ∀ {K F F' G H H' σ e}, Sub F.G0 G → R.rel K F G H σ e → R2.rel K F' G H' σ (kl e)
theorem Wk2.nil : Wk2 eNil eNil id := ⟨fun _ h => h⟩
theorem Wk2.fr {r : Rep α} {kl : ε → ε} (h : Wk2 R R2 kl) : Wk2 (eFr r R) (eFr r R2) (fun e => (e.1, kl e.2)) := ⟨fun s ⟨o, σ', h1, h2, h3⟩ => ⟨o, σ', h1, h2, h.go s h3⟩⟩
end
section
variable {ν ν' α β γ ε ρ ι : Type} {M : Mx} {R R2 : ERep ε} {F : Frm} {G G1 H H1 : Hp} {σ : Sg} {D : Ends} {n : Nat} {r : Rep α} {l : Ln ε α} {rr : RS V ρ}
/-- as merge_new, where some lists are known that are new -/
theorem merge_gs {Gs G' H' : Hp} (i1 : IV F G1 H1) (sG : Sub Gs G1) (nG : NewL F Gs) (j : IV ⟨Gs, H1, [], fun _ => none, fun _ => none⟩ G' H') :
    ∃ G2, IV F G2 H' ∧ Sub G1 G2 ∧ Sub G' G2 ∧ Sub H1 H' ∧ (∀ b, H1 b ≠ none → G2 b ≠ none → G1 b ≠ none) ∧ NewL F G' := by
  let G2 : Hp := fun b => match G1 b with | some o => some o | none => G' b
  have hH : Sub H1 H' := fun b o e => j.fr b o List.not_mem_nil e
  have g1 : Sub G1 G2 := fun b o e => by show (match G1 b with | some o => some o | none => G' b) = some o; rw [e]
  have g0 : ∀ b, G1 b = none → G2 b = G' b := fun b e => by show (match G1 b with | some o => some o | none => G' b) = G' b; rw [e]
  have g2 : Sub G' G2 := fun b o e => by
    cases z : G1 b with
    | none => rw [g0 b z]; exact e
    | some u =>
      rw [g1 b u z]
      have e1 := hH b u (i1.gh b u z)
      have e2 := j.gh b o e
      rw [e1] at e2
      exact e2
  have nw : ∀ b, H1 b ≠ none → G2 b ≠ none → G1 b ≠ none := fun b h1 h2 z => by
    rw [g0 b z] at h2
    have := j.new b h1 h2
    obtain ⟨o, ho⟩ : ∃ o, Gs b = some o := Option.ne_none_iff_exists'.mp this
    rw [sG b o ho] at z
    cases z
  refine ⟨G2, ?_, g1, g2, hH, nw, fun b vs e => ?_⟩
  · refine ⟨fun b o e => ?_, i1.g0.trans g1, fun b h1 h2 => i1.new b h1 (nw b (i1.al b h1) h2), fun b o h1 h2 => hH b o (i1.fr b o h1 h2), fun b h => hH.ne (i1.al b h), i1.xs.trans hH, fun b h => ?_, i1.ys.trans hH, fun b h => ?_, fun b xs hb => ?_⟩
    · cases z : G1 b with
      | none => rw [g0 b z] at e; exact j.gh b o e
      | some o1 =>
        rw [g1 b o1 z] at e
        cases e
        exact hH b _ (i1.gh b _ z)
    · cases z : G2 b with
      | none => rfl
      | some o => exact absurd (i1.xg b h) (nw b (i1.xs.ne h) (by rw [z]; intro z; cases z))
    · cases z : G2 b with
      | none => rfl
      | some o => exact absurd (i1.yg b h) (nw b (i1.ys.ne h) (by rw [z]; intro z; cases z))
    · exact g2 _ _ (j.tp b xs hb)
  · cases z : F.H0 b with
    | none => rfl
    | some o =>
      have h1 := i1.al b (by rw [z]; intro z; cases z)
      have h2 := j.new b h1 (by rw [e]; intro z; cases z)
      obtain ⟨u, hu⟩ : ∃ u, Gs b = some u := Option.ne_none_iff_exists'.mp h2
      have h3 := j.g0 b u hu
      rw [e] at h3
      cases h3
      rw [nG b vs hu] at z
      cases z
/-- one name alone, frozen -/
def eV (n : Nat) (r : Rep α) : ERep (Option α × Unit) := ⟨fun K F G H σ e => n < σ.length ∧ ∀ x, e.1 = some x → ∃ v, σ[n]? = some (some v) ∧ r.rel K G v x, fun g _ _ ⟨h, k⟩ => ⟨h, fun x hx => let ⟨v, a, b⟩ := k x hx; ⟨v, a, r.mono g b⟩⟩, fun h => h, fun h => h⟩
theorem at_eV {r : Rep α} : FrAt (eV n r) n r (Ln.z : Ln (Option α × Unit) α) := by
  refine ⟨?_, ?_, ?_, ?_, ?_⟩
  · rintro K F G H σ e a ⟨h, k⟩ e1
    exact k a e1
  · rintro K F G H σ e a v ⟨h, k⟩ hv
    refine ⟨by rw [List.length_set]; exact h, fun x hx => ⟨v, List.getElem?_set_self h, ?_⟩⟩
    cases hx
    exact hv
  · rintro K F G H σ e ⟨h, k⟩
    exact ⟨h, fun x hx => nomatch hx⟩
  · rintro K F G H σ e ⟨h, k⟩
    exact ⟨by rw [List.length_set]; exact h, fun x hx => nomatch hx⟩
  · rintro K F G H G' H' σ e e' ⟨h, k⟩ s ⟨h', k'⟩
    exact ⟨h, fun x hx => let ⟨v, a, b⟩ := k x hx; ⟨v, a, r.mono s b⟩⟩
/-- what is reckoned of one new name alone is new -/
def mSmall (l : Ln ε α) (m : Option α × Unit → Rs (Option α × Unit) β) : ε → Rs ε β := fun e => match l.get e with
  | some x => match m (some x, ()) with
    | .ok b _ => .ok b e
    | _ => .bad
  | none => .bad
theorem x_small {t : TE} {r' : Rep β} {m : Option α × Unit → Rs (Option α × Unit) β} (at' : HdAt R n (hN r) l) (h : EX M (eV n r) t (fz r') m) : EX M R t (nf r') (mSmall l m) := fun F G H σ e i hR Q p => by
  unfold mSmall at p
  cases hl : l.get e with
  | none => rw [hl] at p; exact p.elim
  | some x =>
    rw [hl] at p
    dsimp only at p
    obtain ⟨v, hs, Gx, z1, z2, z3⟩ := at'.rd hR hl
    let Gs : Hp := fun b => match Gx b with | some o => some o | none => noL G b
    have sx : Sub Gx Gs := fun b o e => by show (match Gx b with | some o => some o | none => noL G b) = some o; rw [e]
    have s0 : ∀ b, Gx b = none → Gs b = noL G b := fun b e => by show (match Gx b with | some o => some o | none => noL G b) = noL G b; rw [e]
    have sG : Sub Gs G := fun b o e => by
      cases z : Gx b with
      | none => rw [s0 b z] at e; exact noL_sub b o e
      | some u => rw [sx b u z] at e; cases e; exact z1 b _ z
    have nG : NewL F Gs := fun b vs e => by
      cases z : Gx b with
      | none => rw [s0 b z] at e; exact absurd rfl ((noL_some e).2 vs)
      | some u => rw [sx b u z] at e; cases e; exact z2 b vs z
    have tG : Tps Gs H := fun b xs hb => by
      have hg := i.tp b xs hb
      cases z : Gx b with
      | none => rw [s0 b z]; exact noL_kept b _ hg fun vs z => nomatch z
      | some u => rw [sx b u z, ← z1 b u z, hg]
    have hn : n < σ.length := by
      rcases Nat.lt_or_ge n σ.length with z | z
      · exact z
      · rw [List.getElem?_eq_none z] at hs
        cases hs
    refine h ⟨Gs, H, [], fun _ => none, fun _ => none⟩ Gs H σ (some x, ()) (.start ⟨sG.trans i.gh, tG⟩) ⟨hn, fun y hy => ⟨v, hs, by cases hy; exact r.mono sx z3⟩⟩ Q ?_
    revert p
    cases m (some x, ()) with
    | ok b e1 =>
      intro p w G' H' H1 j _ hr _
      obtain ⟨G2, iv, g1, g2, hH, nw, hnl⟩ := merge_gs i sG nG j
      exact p w G2 H' H' iv g1 ⟨⟨G', g2, hnl, hr.1⟩, rfl⟩ (R.mono g1 hH nw hR)
    | ex c e1 => exact fun p => p.elim
    | bad => exact fun p => p.elim
theorem rp_small {l : Ln ε α} {m : Option α × Unit → Rs (Option α × Unit) β} {e : ε} {Q : β → ε → Prop} : RsP (mSmall l m e) Q = OpP (l.get e) fun x => RsP (m (some x, ())) fun b _ => Q b e := by
  unfold mSmall
  cases l.get e with
  | none => simp only [RsP_eq, OpP_eq]; exact propext ⟨fun h => h.elim, fun h => h.elim⟩
  | some x =>
    rw [op_some]
    dsimp only
    cases m (some x, ()) <;> (simp only [RsP_eq]; exact propext ⟨id, id⟩)
end
section
def rEqN (K : PySem.W.Frag) : R2 := fun x y H Q => ∃ a b vs, x = .ref a ∧ y = .ref b ∧ SqL K H a vs ∧ SqL K H b [] ∧ Q (.bl (decide (vs = []))) H
theorem op_eqN {X : Cx} (hu : X.A.units + 64 < cLine) : OpR X (compareOp .Eq) (rEqN X.K) := by
  intro pins s σ H x y v u Q I rx ry h
  obtain ⟨a, b, vs, rfl, rfl, ha, hb, q⟩ := h
  obtain rfl : v = Value.ref a := rx
  obtain rfl : u = Value.ref b := ry
  obtain ⟨its, rv, pa, _⟩ := I.list ha
  obtain ⟨its', rv', pb, _⟩ := I.list hb
  have hu' : X.A.units < cLine := by omega
  have hl := rv.length
  have hl' := rv'.length
  by_cases hz : vs = []
  · subst hz
    have e1 : its = [] := List.length_eq_zero_iff.mp (by simpa using hl.symm)
    have e2 : its' = [] := List.length_eq_zero_iff.mp (by simpa using hl'.symm)
    subst e1 e2
    have := SeqAt.RcAt.lists (A := X.A) (s := s) (e := fun _ => true) pa.isList pb.isList rfl hu' (fun j h1 _ => absurd h1 (by simp))
    exact this X.prog X.w _ _ ⟨.bl true, H, I, rfl, by simpa using q⟩
  · have := SeqAt.RcAt.lists_lengths (A := X.A) (s := s) pa.isList pb.isList (by
      have e2 : its' = [] := List.length_eq_zero_iff.mp (by simpa using hl'.symm)
      subst e2
      have : vs.length ≠ 0 := fun z => hz (List.length_eq_zero_iff.mp z)
      simp
      intro z
      subst z
      simp at hl
      exact hz hl) hu'
    exact this X.prog X.w _ _ ⟨.bl false, H, I, rfl, by simpa [hz] using q⟩
def gEqN {α β : Type} (xs : List α) (ys : List β) : Option Bool := match ys with
  | [] => some (match xs with | [] => true | _ => false)
  | _ => none
theorem v_eqN {α β : Type} {K : PySem.W.Frag} {r : Rep α} {r' : Rep β} : VR2 K (rEqN K) (rd (oL r)) (rd (oL r')) rB gEqN := fun G H v w a b c Q s ⟨L, ho, e0, h1, vs, e1, h2⟩ ⟨L', ho', e0', h1', vs', e1', h2'⟩ hg k => by
  subst e0 e0' e1 e1'
  cases h2' with
  | cons _ _ => cases hg
  | nil =>
    refine ⟨L, L', vs, rfl, rfl, sql_h h1, sql_h h1', ?_⟩
    cases h2 with
    | nil => cases hg; exact k _ G H (.refl s) rfl
    | cons _ _ => cases hg; exact k _ G H (.refl s) rfl
end
open LamX (CodeO)
open PySem.W (tabObj)
open LamX (CodeO TabB LamS lamEnv lamCx)
section
variable {ν ν' α β γ δ ε ρ ι : Type} {M : Mx} {R R2 : ERep ε} {F : Frm} {G G1 H H1 : Hp} {σ : Sg} {D : Ends} {n : Nat} {rr : RS V ρ}
/-- the name that holds the lambda -/
structure LamAt (K : PySem.W.Frag) (R : ERep ε) (r : Rep α) (l : Ln ε α) : Prop where
  rd : ∀ {F G H σ e a}, IV F G H → R.rel K F G H σ e → l.get e = some a → ∃ v, σ[0]? = some (some v) ∧ r.rel K G v a
theorem LamAt.fr {K : PySem.W.Frag} {r : Rep α} {l : Ln ε α} (a : FrAt R 0 r l) : LamAt K R r l := ⟨fun _ hR e => a.rd hR e⟩
end
section
variable {X : Cx} {a b e : Expr} {pos : Pos} {rest : List Expr} {t ta tb : TE}
/-- None, a list or a tuple, as a test -/
def tTr (K : PySem.W.Frag) (t : TE) : TT := fun σ H Q => t σ H fun x H1 => (x = .non ∧ Q false H1) ∨ ∃ p ys, x = .ref p ∧ (SqL K H1 p ys ∨ SqT K H1 p ys) ∧ Q (!ys.isEmpty) H1
/-- .. and what stands there where it is empty -/
def tOrN (K : PySem.W.Frag) (t u : TE) : TE := fun σ H Q => t σ H fun x H1 => (x = .non ∧ u σ H1 Q) ∨ ∃ p ys, x = .ref p ∧ (SqL K H1 p ys ∨ SqT K H1 p ys) ∧ if ys.isEmpty = true then u σ H1 Q else Q x H1
theorem wp_seq {pins : List (Addr × Obj)} {σ : L2.St} {H : Hp} {s : Shared} {p : Addr} {ys : List V} {Q : Bool → Shared → Prop} {E : Value → Shared → Prop} (I : Inv X pins σ H s) (hq : SqL X.K H p ys ∨ SqT X.K H p ys) (h : ∀ s1, Inv X pins σ H s1 → Q (!ys.isEmpty) s1) : wpAny (model X.prog X.w) X.A (truthy (.ref p)) Q E s := by
  have hn := line63
  have key : ∀ (its : List Value), Vals ys its → (!its.toArray.isEmpty) = (!ys.isEmpty) := fun its r => by
    have := r.length
    cases its <;> cases ys <;> first | rfl | (simp at this)
  rcases hq with hq | hq
  · obtain ⟨its, r', pl, hz⟩ := I.list hq
    have hlen := r'.length
    refine wpAny_truthy_list pl.isList (by simp only [List.size_toArray] <;> omega) ?_
    rw [key its r']
    exact h _ (I.tok _)
  · obtain ⟨its, r', pl, hz⟩ := I.tuple hq
    have hlen := r'.length
    refine truthy_tuple pl (by simp only [List.size_toArray] <;> omega) ?_
    rw [key its r']
    exact h _ (I.tok _)
theorem pt_tr (h : PE X e t) (he : ∀ whole, isTrue e X.env whole = (do let v ← whole; standAt e.pos; holding [v] (truthy v)) := by intro _; rfl) : PT X e (tTr X.K t) := by
  refine ⟨fun pins s σ H Q I hw => ?_⟩
  refine isTrue_plain (thn (h.run pins s σ H _ I hw) fun v s1 ⟨x, H1, I1, r1, q1⟩ => ?_) (he _)
  rcases q1 with ⟨rfl, q⟩ | ⟨p, ys, rfl, hq, q⟩
  · cases r1
    exact truthy_none ⟨H1, I1, q⟩
  · cases r1
    exact wp_seq I1 hq fun s2 I2 => ⟨H1, I2, q⟩
theorem pe_orN (ha : PE X a ta) (hb : PE X (.BoolOp .Or (b :: rest) pos) tb) : PE X (.BoolOp .Or (a :: b :: rest) pos) (tOrN X.K ta tb) := by
  refine ⟨fun pins s σ H Q I h => ?_⟩
  refine BoolOp_or (thn (ha.run pins s σ H _ I h) fun v s1 ⟨x, H1, I1, r1, q1⟩ => ?_)
  rcases q1 with ⟨rfl, q⟩ | ⟨p, ys, rfl, hq, q⟩
  · cases r1
    exact truthy_none (hb.run pins s1 σ H1 Q I1 q)
  · have r1' := r1
    cases r1
    refine wp_seq I1 hq fun s2 I2 => ?_
    cases hy : ys.isEmpty with
    | true =>
      rw [hy, if_pos rfl] at q
      exact hb.run pins s2 σ H1 Q I2 q
    | false =>
      rw [hy, if_neg (by decide)] at q
      exact ⟨.ref p, H1, I2, r1', q⟩
end
section
variable {α β ε ρ : Type} {M : Mx} {R : ERep ε}
def gTrO (o : Option (List α)) : Option Bool := some (match o with | some (_ :: _) => true | _ => false)
def gOrN (o : Option (List α)) : Option (Option (List α)) := some (match o with | some [] => none | o => o)
theorem x_trT {t : TE} {r : Rep α} {m : ε → Rs ε (Option (List α))} (h : EX M R t (fz (rO (rT r))) m) : EX M R (tTr M.K t) (fz bR) (mUn gTrO m) := fun F G H σ e i hR Q p =>
  h F G H σ e i hR _ (p.bind fz_h fun v a e1 G1 H1 i1 s1 R1 r1 p1 => by
    obtain ⟨r1, _⟩ := r1
    cases a with
    | none =>
      have e : v = .non := r1
      exact .inl ⟨e, p1 false G1 _ _ i1 .refl ⟨rfl, rfl⟩ R1⟩
    | some xs =>
      obtain ⟨_, L, ho, rfl, hL, vs, rfl, hv⟩ := r1
      refine .inr ⟨L, vs, rfl, .inr (sqt_h (i1.gh _ _ hL)), ?_⟩
      have hb : (!vs.isEmpty) = (match (some xs) with | some (_ :: _) => true | _ => false) := by
        cases hv <;> rfl
      rw [hb]
      exact p1 _ G1 _ _ i1 .refl ⟨rfl, rfl⟩ R1)
theorem x_orN {t : TE} {r : Rep α} {m : ε → Rs ε (Option (List α))} (h : EX M R t (fz (rO (rL r))) m) : EX M R (tOrN M.K t (tC .non)) (fz (rO (rL r))) (mUn gOrN m) := fun F G H σ e i hR Q p =>
  h F G H σ e i hR _ (p.bind fz_h fun v a e1 G1 H1 i1 s1 R1 r1 p1 => by
    obtain ⟨r1, _⟩ := r1
    cases a with
    | none =>
      have e : v = .non := r1
      exact .inl ⟨e, p1 .non G1 _ _ i1 .refl ⟨rfl, rfl⟩ R1⟩
    | some xs =>
      have r2 := r1
      obtain ⟨_, L, ho, rfl, hL, vs, rfl, hv⟩ := r1
      refine .inr ⟨L, vs, rfl, .inl (sql_h (i1.gh _ _ hL)), ?_⟩
      cases hv with
      | nil =>
        rw [if_pos (show ([] : List V).isEmpty = true from rfl)]
        exact p1 .non G1 _ _ i1 .refl ⟨rfl, rfl⟩ R1
      | cons h1 h2 =>
        rw [if_neg (by simp)]
        exact p1 _ G1 _ _ i1 .refl ⟨r2, rfl⟩ R1)
end
section
variable {α β ε ρ : Type} {M : Mx} {R : ERep ε} {F : Frm} {G H H' : Hp} {n : Nat}
theorem atI0 {v : V} {ws : List V} : atI (v :: ws) 0 = some v := by simp [atI, ixN]
/-- a thing of a word and a list, whose list is lengthened by its first item; behind "evens" that item, too -/
def splN : Th → Bool
  | .tup [.str u, .lst (y :: ys)] => decide ((y :: ys).length < 1000000) && (decide (u ≠ "evens") || (match y with | .lst zs => decide (zs.length < 1000000) | _ => false))
  | _ => false
def mSplN (l : Ln ε Th) (k : ε → ε) : ε → So ε ρ := fun e => match l.get e with
  | some t => if splN t = true then .nx (k e) else .bad
  | none => .bad
theorem wx_splN {rr : RS V ρ} {l : Ln ε Th} {k : ε → ε} (at' : HdAt (eS R) n (hN rTh) l) (stb : Stb R k) : SXW M (eS R) rr (tSeq (tDrop (tBM M.K "list" rAppend (tOp (rIxT M.K) (tVar n) (tC (.int 1))) (tCons (tOp (rIxL M.K) (tOp (rIxT M.K) (tVar n) (tC (.int 1))) (tC (.int 0))) tNil)))
    (tIfS (tTest (tOp rEq (tOp (rIxT M.K) (tVar n) (tC (.int 0))) (tC (.str "evens")))) (tDrop (tBM M.K "list" rAppend (tOp (rIxL M.K) (tOp (rIxT M.K) (tVar n) (tC (.int 1))) (tC (.int 0))) (tCons (tC (.int 7)) tNil))) tNext)) (mSplN l k) := fun F G H σ e i hR D p => by
  unfold mSplN at p
  cases hl : l.get e with
  | none => rw [hl] at p; exact p.elim
  | some t =>
    rw [hl] at p
    dsimp only at p
    by_cases hx : splN t = true
    case neg => rw [if_neg hx] at p; exact p.elim
    rw [if_pos hx] at p
    obtain ⟨v, hs, Gx, z1, z2, z3⟩ := at'.rd hR hl
    obtain ⟨u, y, ys, rfl, hx1, hx2⟩ : ∃ u y ys, t = .tup [.str u, .lst (y :: ys)] ∧ (y :: ys).length < 1000000 ∧ (u = "evens" → ∃ zs, y = .lst zs ∧ zs.length < 1000000) := by
      unfold splN at hx
      split at hx
      · next u y ys =>
        rw [Bool.and_eq_true_iff, decide_eq_true_iff] at hx
        refine ⟨u, y, ys, rfl, hx.1, fun z => ?_⟩
        have := hx.2
        rw [decide_eq_false (by simp [z]), Bool.false_or] at this
        split at this
        · next zs => exact ⟨zs, rfl, of_decide_eq_true this⟩
        · cases this
      · cases hx
    have z3 : thR Gx v (.tup [.str u, .lst (y :: ys)]) := z3
    unfold thR at z3
    obtain ⟨Lt, vs, rfl, gt, z3⟩ := z3
    unfold thRs at z3
    obtain ⟨v0, ws0, rfl, q0, z3⟩ := z3
    unfold thRs at z3
    obtain ⟨v1, ws1, rfl, q1, z3⟩ := z3
    unfold thRs at z3
    subst z3
    unfold thR at q0
    subst q0
    unfold thR at q1
    obtain ⟨L, vs, rfl, gl, q1⟩ := q1
    have hlen : vs.length = (y :: ys).length := ((thRs_a2 (K := M.K)).mp q1).length
    unfold thRs at q1
    obtain ⟨vy, ws, rfl, qy, q1⟩ := q1
    have hLt := i.gh _ _ (z1 _ _ gt)
    have hL := i.gh _ _ (z1 _ _ gl)
    have hne : Lt ≠ L := fun z => by rw [z, hL] at hLt; cases hLt
    refine ⟨_, hs, Lt, [.str u, .ref L], 1, .ref L, rfl, rfl, sqt_h hLt, rfl, tyL_h hL, _, hs, Lt, [.str u, .ref L], 1, .ref L, rfl, rfl, sqt_h hLt, rfl, L, vy :: ws, 0, vy, rfl, rfl, sql_h hL, atI0, L, vy :: ws, vy, rfl, rfl, hL, by rw [hlen, sizeLine_eq]; omega, ?_⟩
    have hLt1 : upd H L (.lst (vy :: ws ++ [vy])) Lt = some (.tup [.str u, .ref L]) := by rw [upd_ne hne]; exact hLt
    have hL1 : upd H L (.lst (vy :: ws ++ [vy])) L = some (.lst (vy :: ws ++ [vy])) := upd_same
    refine ⟨_, hs, Lt, [.str u, .ref L], 0, .str u, rfl, rfl, sqt_h hLt1, rfl, rfl, _, rfl, ?_⟩
    by_cases hu : u = "evens"
    · rw [decide_eq_true (show V.str u = V.str (Str.ofString "evens") by rw [hu])]
      dsimp only
      rw [if_pos rfl]
      obtain ⟨zs, rfl, hz⟩ := hx2 hu
      unfold thR at qy
      obtain ⟨L2, us, rfl, g2, q2⟩ := qy
      have hlen2 : us.length = zs.length := ((thRs_a2 (K := M.K)).mp q2).length
      obtain ⟨ks, hk, hks⟩ : ∃ ks, upd H L (.lst (.ref L2 :: ws ++ [.ref L2])) L2 = some (.lst ks) ∧ ks.length < 2000000 := by
        by_cases h2 : L2 = L
        · subst h2
          exact ⟨_, hL1, by rw [List.length_append, hlen]; simp at hx1 ⊢; omega⟩
        · exact ⟨us, by rw [upd_ne h2]; exact i.gh _ _ (z1 _ _ g2), by omega⟩
      refine ⟨_, hs, Lt, [.str u, .ref L], 1, .ref L, rfl, rfl, sqt_h hLt1, rfl, L, _, 0, .ref L2, rfl, rfl, sql_h hL1, atI0, tyL_h hk, L2, ks, .int 7, rfl, rfl, hk, by rw [sizeLine_eq]; omega, ?_⟩
      obtain ⟨G', i', q1, q2, q3⟩ := wild_goN (S := fun b => b = L ∨ b = L2) (H' := upd (upd H L (.lst (.ref L2 :: ws ++ [.ref L2]))) L2 (.lst (ks ++ [.int 7]))) i hR.1 (fun b hb => by
          rcases hb with rfl | rfl
          · exact ⟨z2 _ _ gl, _, z1 _ _ gl⟩
          · exact ⟨z2 _ _ g2, _, z1 _ _ g2⟩) (fun b hb => by rw [upd_ne fun z => hb (.inr z), upd_ne fun z => hb (.inl z)]) (fun b hb => by
          by_cases h2 : b = L2
          · subst h2
            exact ⟨_, upd_same⟩
          · rw [upd_ne h2]
            rcases hb with rfl | hb
            · exact ⟨_, upd_same⟩
            · exact absurd hb h2)
      exact p σ G' _ i' ⟨hR.1, stb.st q1 q2 q3 hR.2⟩
    · rw [decide_eq_false (show ¬ V.str u = V.str (Str.ofString "evens") from fun z => hu (V.str.inj z))]
      dsimp only
      rw [if_neg (by decide)]
      obtain ⟨G', i', q1, q2, q3⟩ := wild_goN (S := fun b => b = L) (H' := upd H L (.lst (vy :: ws ++ [vy]))) i hR.1 (fun b hb => by subst hb; exact ⟨z2 _ _ gl, _, z1 _ _ gl⟩) (fun b hb => upd_ne hb) (fun b hb => by subst hb; exact ⟨_, upd_same⟩)
      exact p σ G' _ i' ⟨hR.1, stb.st q1 q2 q3 hR.2⟩
theorem sp_splN {l : Ln ε Th} {k : ε → ε} {e : ε} {t : Th} {N C B : ε → Prop} {T : ρ → ε → Prop} (h : l.get e = some t) (ht : splN t = true) (q : N (k e)) : SoP (mSplN l k e : So ε ρ) N C B T := by
  unfold mSplN
  rw [h]
  dsimp only
  rw [if_pos ht]
  exact .nx q
end
def gIdxS (xs : List Str) (k : Str) : Option Int := if k ∈ xs then some ((xs.idxOf k : Nat) : Int) else none
theorem x_idxS {ε : Type} {R : ERep ε} {M : Mx} {to : TE} {ta : TA} {m : ε → Rs ε (List Str)} {m' : ε → Rs ε Str} (h : EX M R to (fz (rL rS)) m) (k : EX M R ta (fz (gOne rS)) m') : EX M R (tBM M.K "list" (rIndex M.K) to ta) (fz rI) (mOp gIdxS m m') := fun F G H σ e i hR Q p =>
  h F G H σ e i hR _ (p.bind fz_h fun v a e1 G1 H1 i1 s1 R1 r1 p1 => by
    obtain ⟨⟨L, ho, rfl, hg, vs, rfl, ha⟩, _⟩ := r1
    have e0 := A2.eqMap ha
    subst e0
    refine ⟨.inl ⟨rfl, _, sql_h (i1.gh _ _ hg)⟩, k F G1 H1 σ e1 i1 R1 _ (p1.bind fz_h fun vs b e2 G2 H2 i2 s2 R2 r2 p2 => ?_)⟩
    obtain ⟨⟨w, rfl, rfl⟩, _⟩ := r2
    obtain ⟨c, hc, p3⟩ := of_some p2
    obtain ⟨hz, rfl⟩ := of_ite hc
    have hlt := List.idxOf_lt_length_iff.mpr hz
    refine ⟨L, _, .str b, a.idxOf b, .str b, rfl, rfl, sql_h (i2.gh _ _ (s2 _ _ hg)), rfl, ?_, ?_, ?_, ?_, p3 _ G2 H2 H2 i2 .refl ⟨rfl, rfl⟩ R2⟩
    · rw [List.all_map, List.all_eq_true]
      exact fun _ _ => rfl
    · rw [List.getElem?_map, List.getElem?_eq_getElem hlt, List.getElem_idxOf]
      rfl
    · simp [eqV]
    · intro m z' hm hz'
      rw [List.getElem?_map] at hz'
      obtain ⟨x, hx, rfl⟩ := Option.map_eq_some_iff.mp hz'
      have := List.not_of_lt_findIdx (p := fun y => y == b) (xs := a) hm
      obtain ⟨hl, hx⟩ := List.getElem?_eq_some_iff.mp hx
      rw [hx] at this
      simp [eqV]
      simpa using this)
theorem n_nameO {α ε : Type} {M : Mx} {R : ERep ε} {n : Nat} {r : Rep α} {l : Ln ε (Option α)} {vs : List Nat} (nn : NN r) (at' : FrAt R n (rO r) l) (hn : n ∈ vs) : TGN M R (gName n) r vs (fun a => pN l (some a)) := fun F G H σ e v a i hR hr Q k => k _ (wipe_in hn) (at'.wr hR ⟨nn _ _ _ _ hr, hr⟩)
/-- all choices of the first k -/
def subs (ns : List Int) : Nat → List (List Int)
  | 0 => [[]]
  | k + 1 => subs ns k ++ (subs ns k).map (· ++ [ns.getD k 0])
/-- how many choices of k out of n, row by row -/
def C : Nat → Nat → Nat
  | _, 0 => 1
  | 0, _ + 1 => 0
  | n + 1, k + 1 => C n k + C n (k + 1)
/-- a term of the sum -/
def tm (sg : Int) (xs : List Int) (k i : Nat) : Int := xs.getD i 0 * (C (xs.length - 1 - i) (k - i) : Int) * (if (k - i) % 2 = 0 then 1 else sg)
/-- the sum of the first m terms -/
def sm (sg : Int) (xs : List Int) (k : Nat) : Nat → Int
  | 0 => 0
  | m + 1 => sm sg xs k m + tm sg xs k m
/-- what the dict holds behind some faces of a piece -/
def grown (ks S : List (List Int)) : List (List Int) := ks ++ S.filter fun f => !decide (f ∈ ks)
/-- all faces of the pieces, each once -/
def KS (ps : List (List Int)) (ks : List (List Int)) : Prop := ks.Nodup ∧ ∀ f, f ∈ ks ↔ ∃ p ∈ ps, f ∈ subs p p.length
/-- a piece more: its faces, in whatever order, put behind -/
theorem KS.next {ps ks S : List (List Int)} {p : List Int} (h : KS ps ks) (hS : S.Nodup) (hm : ∀ f, f ∈ S ↔ f ∈ subs p p.length) : KS (ps ++ [p]) (grown ks S) := by
  refine ⟨?_, fun f => ?_⟩
  · unfold grown
    rw [List.nodup_append]
    refine ⟨h.1, hS.sublist List.filter_sublist, fun a ha b hb => ?_⟩
    rintro rfl
    have := (List.mem_filter.mp hb).2
    simp [ha] at this
  · unfold grown
    rw [List.mem_append, List.mem_filter]
    constructor
    · rintro (z | ⟨z, _⟩)
      · obtain ⟨q, hq, z⟩ := (h.2 f).mp z
        exact ⟨q, List.mem_append_left _ hq, z⟩
      · exact ⟨p, List.mem_append_right _ (List.mem_singleton_self _), (hm f).mp z⟩
    · rintro ⟨q, hq, z⟩
      rcases List.mem_append.mp hq with hq | hq
      · exact .inl ((h.2 f).mpr ⟨q, hq, z⟩)
      · rw [List.mem_singleton.mp hq] at z
        by_cases hk : f ∈ ks
        · exact .inl hk
        · exact .inr ⟨(hm f).mpr z, by simpa using hk⟩
/-- Horner -/
def hn (xs : List Int) (x : Int) : Int := xs.foldl (fun t n => t * x + n) 0
abbrev E_line_of : Type := Option Str × Option (List Int) × Option Int × Unit
def R_line_of : ERep E_line_of := (eFr rS (eFr (rz (oT rI)) (eFr rI eNil)))
abbrev l_line_of_0 : Ln E_line_of Str := Ln.z
theorem a_line_of_0 : FrAt R_line_of 0 rS l_line_of_0 := FrAt.z
abbrev l_line_of_1 : Ln E_line_of (List Int) := (Ln.s Ln.z)
theorem a_line_of_1 : FrAt R_line_of 1 (rz (oT rI)) l_line_of_1 := (FrAt.sF FrAt.z)
abbrev l_line_of_2 : Ln E_line_of Int := (Ln.s (Ln.s Ln.z))
theorem a_line_of_2 : FrAt R_line_of 2 rI l_line_of_2 := (FrAt.sF (FrAt.sF FrAt.z))
def M_line_of : E_line_of → So E_line_of Str :=
    (mRet (mOp gJoin (mC (" " : Str)) (mOp gCat (mUn szOk (mCons (mVar l_line_of_0) (mC []))) (mLc (mVar l_line_of_1) (pN l_line_of_2) mYes (mUn gStr (mVar l_line_of_2)) (fun e => Ln.put l_line_of_2 none (id e)) (fun e e1 => (fun _ e1 => e1) e (Ln.put l_line_of_2 (Ln.get l_line_of_2 (id e)) e1))))))
def m_line_of (x0 : Str) (x1 : (List Int)) : Rs Unit Str := (M_line_of (some x0, some x1, none, ())).run none
abbrev u_line_of (p : Str × (List Int)) : Rs Unit Str := m_line_of (p.1) (p.2)
def sp_line_of (K : PySem.W.Frag) : Sp := spD K cx0 (aCons (ir rS) (aOne (ir (rz (oT rI))))) (fz rS) u_line_of
theorem len_line_of (K : PySem.W.Frag) : ∀ vs H Q E, sp_line_of K vs H Q E → vs.length = 2 := len_D (ALen.cons ALen.one)
def t_line_of (K : PySem.W.Frag) : TS :=
    (tRet (tM1 (rJoin K) (tC (.str " ")) (tOp rCat (tLst (tCons (tVar 0) tNil)) (tLc (iTup K (tVar 1)) (gName 2) tYes (tCB rStr (tCons (tVar 2) tNil)) [2]))))
theorem sx_line_of {K : PySem.W.Frag} : SX ⟨K, E0, cx0⟩ R_line_of (fz rS) (t_line_of K) M_line_of :=
    (s_ret (x_join (x_c fun _ => rfl) (x_fz (x_tOpF v_cat Cv.ob (x_fz (x_lst (x_lcons (x_var a_line_of_0) x_lnil))) (x_is Cv.ob (x_fz (x_lc (x_iT (x_var a_line_of_1)) (Wp.cons a_line_of_2 Wp.nil) (n_name a_line_of_2 (by decide)) x_yes (x_tCB v_str (x_aone (x_is Cv.id (x_var a_line_of_2)))))))))))
theorem rd_line_of {K : PySem.W.Frag} {H : Hp} {vs : List V} {Q : VK} {E : XK} {N : List Str} (h : sp_line_of K vs H Q E) (hN : N.length = 3 := by rfl) : t_line_of K { nx := fun _ H' => Q .non H', rt := Q } (start N vs) H := by
  have h : spD K cx0 (aCons (ir rS) (aOne (ir (rz (oT rI))))) (fz rS) (fun (a : Str × (List Int)) => (M_line_of (some a.1, some a.2, none, ())).run none) vs H Q E := h
  refine d_D (dn := none) (ra := (aCons (ir rS) (aOne (ir (rz (oT rI)))))) (e0 := fun (a : Str × (List Int)) => (some a.1, some a.2, none, ())) (sx_line_of) ?_ ?_ h
  · intro G H vs a s hr
    obtain ⟨v0, _, rfl, h0, ⟨v1, rfl, h1⟩⟩ := hr
    rw [show start N [v0, v1] = [some v0, some v1, none] by simp [L2.start, hN]]
    exact (e_fr h0 (e_fr h1 (e_frN e_nil)))
  · intro b h; cases h
abbrev E_line_of_l : Type := Option Str × Option (List Int) × Option Int × Unit
def R_line_of_l : ERep E_line_of_l := (eFr rS (eBo (oL rI) (eFr rI eNil)))
abbrev l_line_of_l_0 : Ln E_line_of_l Str := Ln.z
theorem a_line_of_l_0 : FrAt R_line_of_l 0 rS l_line_of_l_0 := FrAt.z
abbrev l_line_of_l_1 : Ln E_line_of_l (List Int) := (Ln.s Ln.z)
theorem a_line_of_l_1 : BoAt R_line_of_l 1 (oL rI) l_line_of_l_1 := (BoAt.sF BoAt.z)
abbrev l_line_of_l_2 : Ln E_line_of_l Int := (Ln.s (Ln.s Ln.z))
theorem a_line_of_l_2 : FrAt R_line_of_l 2 rI l_line_of_l_2 := (FrAt.sF (FrAt.sB FrAt.z))
def M_line_of_l : E_line_of_l → So E_line_of_l Str :=
    (mRet (mOp gJoin (mC (" " : Str)) (mOp gCat (mUn szOk (mCons (mVar l_line_of_l_0) (mC []))) (mLc (mVar l_line_of_l_1) (pN l_line_of_l_2) mYes (mUn gStr (mVar l_line_of_l_2)) (fun e => Ln.put l_line_of_l_2 none (id e)) (fun e e1 => (fun _ e1 => e1) e (Ln.put l_line_of_l_2 (Ln.get l_line_of_l_2 (id e)) e1))))))
def m_line_of_l (x0 : Str) (x1 : (List Int)) : Rs Unit Str := (M_line_of_l (some x0, some x1, none, ())).run none
abbrev u_line_of_l (p : Str × (List Int)) : Rs Unit Str := m_line_of_l (p.1) (p.2)
def sp_line_of_l (K : PySem.W.Frag) : Sp := spD K cx0 (aCons (ir rS) (aOne (rd (oL rI)))) (fz rS) u_line_of_l
theorem len_line_of_l (K : PySem.W.Frag) : ∀ vs H Q E, sp_line_of_l K vs H Q E → vs.length = 2 := len_D (ALen.cons ALen.one)
def t_line_of_l (K : PySem.W.Frag) : TS :=
    (tRet (tM1 (rJoin K) (tC (.str " ")) (tOp rCat (tLst (tCons (tVar 0) tNil)) (tLc (iList K (tVar 1)) (gName 2) tYes (tCB rStr (tCons (tVar 2) tNil)) [2]))))
theorem sx_line_of_l {K : PySem.W.Frag} : SX ⟨K, E0, cx0⟩ R_line_of_l (fz rS) (t_line_of_l K) M_line_of_l :=
    (s_ret (x_join (x_c fun _ => rfl) (x_fz (x_tOpF v_cat Cv.ob (x_fz (x_lst (x_lcons (x_var a_line_of_l_0) x_lnil))) (x_is Cv.ob (x_fz (x_lc (x_iLB a_line_of_l_1) (Wp.cons a_line_of_l_2 Wp.nil) (n_name a_line_of_l_2 (by decide)) x_yes (x_tCB v_str (x_aone (x_is Cv.id (x_var a_line_of_l_2)))))))))))
theorem rd_line_of_l {K : PySem.W.Frag} {H : Hp} {vs : List V} {Q : VK} {E : XK} {N : List Str} (h : sp_line_of_l K vs H Q E) (hN : N.length = 3 := by rfl) : t_line_of_l K { nx := fun _ H' => Q .non H', rt := Q } (start N vs) H := by
  have h : spD K cx0 (aCons (ir rS) (aOne (rd (oL rI)))) (fz rS) (fun (a : Str × (List Int)) => (M_line_of_l (some a.1, some a.2, none, ())).run none) vs H Q E := h
  refine d_D (dn := none) (ra := (aCons (ir rS) (aOne (rd (oL rI))))) (e0 := fun (a : Str × (List Int)) => (some a.1, some a.2, none, ())) (sx_line_of_l) ?_ ?_ h
  · intro G H vs a s hr
    obtain ⟨v0, _, rfl, h0, ⟨v1, rfl, h1⟩⟩ := hr
    rw [show start N [v0, v1] = [some v0, some v1, none] by simp [L2.start, hN]]
    exact (e_fr h0 (e_bo h1 bo_D (e_frN e_nil)))
  · intro b h; cases h
abbrev E_lines_of : Type := Option Str × Unit
def R_lines_of : ERep E_lines_of := (eFr rS eNil)
abbrev l_lines_of_0 : Ln E_lines_of Str := Ln.z
theorem a_lines_of_0 : FrAt R_lines_of 0 rS l_lines_of_0 := FrAt.z
def M_lines_of : E_lines_of → So E_lines_of (List Str) :=
    (mSeq (mIfS (mNot (mUn (gIsi true) (mPair (mVar l_lines_of_0) (mC ())))) mNever mNext)
    (mRet (mOp gSplit (mVar l_lines_of_0) (mC ("\n" : Str)))))
def m_lines_of (x0 : Str) : Rs Unit (List Str) := (M_lines_of (some x0, ())).run none
abbrev u_lines_of (p : Str) : Rs Unit (List Str) := m_lines_of p
def sp_lines_of (K : PySem.W.Frag) : Sp := spD K cx0 (aOne (ir rS)) (fz (rz (oL rS))) u_lines_of
theorem len_lines_of (K : PySem.W.Frag) : ∀ vs H Q E, sp_lines_of K vs H Q E → vs.length = 1 := len_D ALen.one
def t_lines_of (K : PySem.W.Frag) : TS :=
    (tSeq (tIfS (tNot (tB (tCB (rIsi K) (tCons (tVar 0) (tCons (tC (.ty "str")) tNil))))) tNever tNext)
    (tRet (tM1 rSplit (tVar 0) (tC (.str "\n")))))
theorem sx_lines_of {K : PySem.W.Frag} : SX ⟨K, E0, cx0⟩ R_lines_of (fz (rz (oL rS))) (t_lines_of K) M_lines_of :=
    (s_seq (s_if (x_not (x_tB (x_tCB (v_isi kd_S (fun _ => kit_ty (by decide +kernel))) (x_acons Cv.id (x_var a_lines_of_0) (x_aone (x_is Cv.id (x_c (r := rTy "str") (a := ()) fun _ => rfl))))))) s_never s_next)
    (s_ret (x_fz (x_split (x_var a_lines_of_0) (x_c fun _ => rfl)))))
theorem rd_lines_of {K : PySem.W.Frag} {H : Hp} {vs : List V} {Q : VK} {E : XK} {N : List Str} (h : sp_lines_of K vs H Q E) (hN : N.length = 1 := by rfl) : t_lines_of K { nx := fun _ H' => Q .non H', rt := Q } (start N vs) H := by
  have h : spD K cx0 (aOne (ir rS)) (fz (rz (oL rS))) (fun (a : Str) => (M_lines_of (some a, ())).run none) vs H Q E := h
  refine d_D (dn := none) (ra := (aOne (ir rS))) (e0 := fun (a : Str) => (some a, ())) (sx_lines_of) ?_ ?_ h
  · intro G H vs a s hr
    obtain ⟨v0, rfl, h0⟩ := hr
    rw [show start N [v0] = [some v0] by simp [L2.start, hN]]
    exact (e_fr h0 e_nil)
  · intro b h; cases h
abbrev E_number_in : Type := Option Str × Option Str × Option Str × Unit
def R_number_in : ERep E_number_in := (eFr rS (eFr rS (eFr rS eNil)))
abbrev l_number_in_0 : Ln E_number_in Str := Ln.z
theorem a_number_in_0 : FrAt R_number_in 0 rS l_number_in_0 := FrAt.z
abbrev l_number_in_1 : Ln E_number_in Str := (Ln.s Ln.z)
theorem a_number_in_1 : FrAt R_number_in 1 rS l_number_in_1 := (FrAt.sF FrAt.z)
abbrev l_number_in_2 : Ln E_number_in Str := (Ln.s (Ln.s Ln.z))
theorem a_number_in_2 : FrAt R_number_in 2 rS l_number_in_2 := (FrAt.sF (FrAt.sF FrAt.z))
def M_number_in : E_number_in → So E_number_in (Option Int) :=
    (mSeq (mSet l_number_in_1 (mSl gCutS (mVar l_number_in_0) (mPart (mUn gIntB (mOp gEq (mSl gCutS (mVar l_number_in_0) (mC none) (mPart (mC (1 : Int)))) (mC ("-" : Str))))) (mC none)))
    (mSeq (mIfB (mOr (mNot (mChain gLe gLe (mC (1 : Int)) (mUn gLenS (mVar l_number_in_1)) (mC (30 : Int)))) (mNot (mUn gAll (mLc (mSigns (mVar l_number_in_1)) (pN l_number_in_2) mYes (mOp gInSg (mVar l_number_in_2) (mC ("0123456789" : Str))) (fun e => Ln.put l_number_in_2 none (id e)) (fun e e1 => (fun _ e1 => e1) e (Ln.put l_number_in_2 (Ln.get l_number_in_2 (id e)) e1)))))) (mRet (mNone (mC ()))) mNext)
    (mSeq (mIfB (mAnd (mOp gEq (mOp gIxStr (mVar l_number_in_1) (mC (0 : Int))) (mC ("0" : Str))) (mOp gNe (mVar l_number_in_0) (mC ("0" : Str)))) (mRet (mNone (mC ()))) mNext)
    (mRet (mSome (mUn gIntS (mVar l_number_in_0)))))))
def m_number_in (x0 : Str) : Rs Unit (Option Int) := (M_number_in (some x0, none, none, ())).run none
abbrev u_number_in (p : Str) : Rs Unit (Option Int) := m_number_in p
def sp_number_in (K : PySem.W.Frag) : Sp := spD K cx0 (aOne (ir rS)) (fz (rO rI)) u_number_in
theorem len_number_in (K : PySem.W.Frag) : ∀ vs H Q E, sp_number_in K vs H Q E → vs.length = 1 := len_D ALen.one
def t_number_in (K : PySem.W.Frag) : TS :=
    (tSeq (tAsg (tSl rSlS (tVar 0) (tPart (tCB rIntB (tCons (tOp rEq (tSl rSlS (tVar 0) tNoPart (tPart (tC (.int 1)))) (tC (.str "-"))) tNil))) tNoPart) (gName 1))
    (tSeq (tIfS (tOr (tNot (tTest (tChain rLe rLe (tC (.int 1)) (tCB rLenStr (tCons (tVar 1) tNil)) (tC (.int 30))))) (tNot (tB (tCB (rAll K) (tCons (tLc (iStr (tVar 1)) (gName 2) tYes (tOp rInSg (tVar 2) (tC (.str "0123456789"))) [2]) tNil))))) (tRet (tC .non)) tNext)
    (tSeq (tIfS (tAnd (tTest (tOp rEq (tOp rIxS (tVar 1) (tC (.int 0))) (tC (.str "0")))) (tTest (tOp rNe (tVar 0) (tC (.str "0"))))) (tRet (tC .non)) tNext)
    (tRet (tCB rIntS (tCons (tVar 0) tNil))))))
theorem sx_number_in {K : PySem.W.Frag} : SX ⟨K, E0, cx0⟩ R_number_in (fz (rO rI)) (t_number_in K) M_number_in :=
    (s_seq (s_set a_number_in_1 (x_sl v_slS Cv.id (x_var a_number_in_0) (x_part (x_tCB v_intB (x_aone (x_is Cv.id (x_tOp v_eqS Cv.id (x_sl v_slS Cv.id (x_var a_number_in_0) x_noPart (x_part (x_c fun _ => rfl))) (x_is Cv.id (x_c fun _ => rfl))))))) x_noPart))
    (s_seq (s_ifB (x_or (x_not (x_test (x_chain v_le v_le (x_c fun _ => rfl) (x_tCB v_lenStr (x_aone (x_is Cv.id (x_var a_number_in_1)))) (x_c fun _ => rfl)))) (x_not (x_tB (x_tCB v_all (x_aone (x_is Cv.ob (x_fz (x_lc (x_iStr (x_var a_number_in_1)) (Wp.cons a_number_in_2 Wp.nil) (n_name a_number_in_2 (by decide)) x_yes (x_tOp v_inSg Cv.id (x_var a_number_in_2) (x_is Cv.id (x_c fun _ => rfl))))))))))) (s_ret (x_none (x_c fun _ => rfl))) s_next)
    (s_seq (s_ifB (x_and (x_test (x_tOp v_eqS Cv.id (x_tOp v_ixStr Cv.id (x_var a_number_in_1) (x_is Cv.id (x_c fun _ => rfl))) (x_is Cv.id (x_c fun _ => rfl)))) (x_test (x_tOp v_neS Cv.id (x_var a_number_in_0) (x_is Cv.id (x_c fun _ => rfl))))) (s_ret (x_none (x_c fun _ => rfl))) s_next)
    (s_ret (x_some nn_I (x_tCB v_intS (x_aone (x_is Cv.id (x_var a_number_in_0)))))))))
theorem rd_number_in {K : PySem.W.Frag} {H : Hp} {vs : List V} {Q : VK} {E : XK} {N : List Str} (h : sp_number_in K vs H Q E) (hN : N.length = 3 := by rfl) : t_number_in K { nx := fun _ H' => Q .non H', rt := Q } (start N vs) H := by
  have h : spD K cx0 (aOne (ir rS)) (fz (rO rI)) (fun (a : Str) => (M_number_in (some a, none, none, ())).run none) vs H Q E := h
  refine d_D (dn := none) (ra := (aOne (ir rS))) (e0 := fun (a : Str) => (some a, none, none, ())) (sx_number_in) ?_ ?_ h
  · intro G H vs a s hr
    obtain ⟨v0, rfl, h0⟩ := hr
    rw [show start N [v0] = [some v0, none, none] by simp [L2.start, hN]]
    exact (e_fr h0 (e_frN (e_frN e_nil)))
  · intro b h; cases h
abbrev E_rising_in : Type := Option (List Str) × Option (List (Option Int)) × Option Str × Option Int × Unit
def R_rising_in : ERep E_rising_in := (eBo (oL rS) (eFr (rz (oL (rO rI))) (eFr rS (eFr rI eNil))))
abbrev l_rising_in_0 : Ln E_rising_in (List Str) := Ln.z
theorem a_rising_in_0 : BoAt R_rising_in 0 (oL rS) l_rising_in_0 := BoAt.z
abbrev l_rising_in_1 : Ln E_rising_in (List (Option Int)) := (Ln.s Ln.z)
theorem a_rising_in_1 : FrAt R_rising_in 1 (rz (oL (rO rI))) l_rising_in_1 := (FrAt.sB FrAt.z)
abbrev l_rising_in_2 : Ln E_rising_in Str := (Ln.s (Ln.s Ln.z))
theorem a_rising_in_2 : FrAt R_rising_in 2 rS l_rising_in_2 := (FrAt.sB (FrAt.sF FrAt.z))
abbrev l_rising_in_3 : Ln E_rising_in Int := (Ln.s (Ln.s (Ln.s Ln.z)))
theorem a_rising_in_3 : FrAt R_rising_in 3 rI l_rising_in_3 := (FrAt.sB (FrAt.sF (FrAt.sF FrAt.z)))
def M_rising_in : E_rising_in → So E_rising_in (Option (List Int)) :=
    (mSeq (mSet l_rising_in_1 (mLc (mVar l_rising_in_0) (pN l_rising_in_2) mYes (mCall (fun p => m_number_in p) (mVar l_rising_in_2)) (fun e => Ln.put l_rising_in_2 none (id e)) (fun e e1 => (fun _ e1 => e1) e (Ln.put l_rising_in_2 (Ln.get l_rising_in_2 (id e)) e1))))
    (mSeq (mIfB (mOr (mOp gIn (mNone (mC ())) (mVar l_rising_in_1)) (mNot (mUn gAll (mLc (mRng2 (mPair (mC (1 : Int)) (mUn gLen (mVar l_rising_in_1)))) (pN l_rising_in_3) mYes (mOp gLt (mUnw (mOp gIx (mVar l_rising_in_1) (mOp gSubI (mVar l_rising_in_3) (mC (1 : Int))))) (mUnw (mOp gIx (mVar l_rising_in_1) (mVar l_rising_in_3)))) (fun e => Ln.put l_rising_in_3 none (id e)) (fun e e1 => (fun _ e1 => e1) e (Ln.put l_rising_in_3 (Ln.get l_rising_in_3 (id e)) e1)))))) (mRet (mNone (mC ()))) mNext)
    (mRet (mSome (mUn (allM fun o => o) (mVar l_rising_in_1))))))
def m_rising_in (x0 : (List Str)) : Rs Unit (Option (List Int)) := (M_rising_in (some x0, none, none, none, ())).run none
abbrev u_rising_in (p : (List Str)) : Rs Unit (Option (List Int)) := m_rising_in p
def sp_rising_in (K : PySem.W.Frag) : Sp := spD K cx0 (aOne (rd (oL rS))) (fz (rO (rz (oL rI)))) u_rising_in
theorem len_rising_in (K : PySem.W.Frag) : ∀ vs H Q E, sp_rising_in K vs H Q E → vs.length = 1 := len_D ALen.one
def t_rising_in (K : PySem.W.Frag) : TS :=
    (tSeq (tAsg (tLc (iList K (tVar 0)) (gName 2) tYes (tCall (sp_number_in K) [] E0 (tCons (tVar 2) tNil)) [2]) (gName 1))
    (tSeq (tIfS (tOr (tTest (tOp (rInD K) (tC .non) (tVar 1))) (tNot (tB (tCB (rAll K) (tCons (tLc (iRng2 (tCons (tC (.int 1)) (tCons (tCB (rLenL K) (tCons (tVar 1) tNil)) tNil))) (gName 3) tYes (tOp rLt (tOp (rIxL K) (tVar 1) (tOp rSub (tVar 3) (tC (.int 1)))) (tOp (rIxL K) (tVar 1) (tVar 3))) [3]) tNil))))) (tRet (tC .non)) tNext)
    (tRet (tVar 1))))
theorem sx_rising_in {K : PySem.W.Frag} : SX ⟨K, E0, cx0⟩ R_rising_in (fz (rO (rz (oL rI)))) (t_rising_in K) M_rising_in :=
    (s_seq (s_set a_rising_in_1 (x_fz (x_lc (x_iLB a_rising_in_0) (Wp.cons a_rising_in_2 Wp.nil) (n_name a_rising_in_2 (by decide)) x_yes (x_call (x_aone (x_is Cv.id (x_var a_rising_in_2)))))))
    (s_seq (s_ifB (x_or (x_test (x_tOp (v_inD (da_O da_I) (da_Lr (da_O da_I)) (eq_O nne_I eq_I) (by decide)) Cv.id (x_none (x_c fun _ => rfl)) (x_is Cv.ob (x_var a_rising_in_1)))) (x_not (x_tB (x_tCB v_all (x_aone (x_is Cv.ob (x_fz (x_lc (x_rng2 (x_acons Cv.id (x_c fun _ => rfl) (x_aone (x_is Cv.id (x_tCB v_lenL (x_aone (x_is Cv.ob (x_var a_rising_in_1)))))))) (Wp.cons a_rising_in_3 Wp.nil) (n_name a_rising_in_3 (by decide)) x_yes (x_tOp v_lt Cv.id (x_unw (x_tOp v_ixL Cv.ob (x_var a_rising_in_1) (x_is Cv.id (x_tOp v_sub Cv.id (x_var a_rising_in_3) (x_is Cv.id (x_c fun _ => rfl)))))) (x_is Cv.id (x_unw (x_tOp v_ixL Cv.ob (x_var a_rising_in_1) (x_is Cv.id (x_var a_rising_in_3)))))))))))))) (s_ret (x_none (x_c fun _ => rfl))) s_next)
    (s_ret (x_some nn_z (x_cast c_LO (x_var a_rising_in_1))))))
theorem rd_rising_in {K : PySem.W.Frag} {H : Hp} {vs : List V} {Q : VK} {E : XK} {N : List Str} (h : sp_rising_in K vs H Q E) (hN : N.length = 4 := by rfl) : t_rising_in K { nx := fun _ H' => Q .non H', rt := Q } (start N vs) H := by
  have h : spD K cx0 (aOne (rd (oL rS))) (fz (rO (rz (oL rI)))) (fun (a : (List Str)) => (M_rising_in (some a, none, none, none, ())).run none) vs H Q E := h
  refine d_D (dn := none) (ra := (aOne (rd (oL rS)))) (e0 := fun (a : (List Str)) => (some a, none, none, none, ())) (sx_rising_in) ?_ ?_ h
  · intro G H vs a s hr
    obtain ⟨v0, rfl, h0⟩ := hr
    rw [show start N [v0] = [some v0, none, none, none] by simp [L2.start, hN]]
    exact (e_bo h0 bo_D (e_frN (e_frN (e_frN e_nil))))
  · intro b h; cases h
abbrev E_face_in : Type := Option (List Str) × Option (Option (List Int)) × Unit
def R_face_in : ERep E_face_in := (eBo (oL rS) (eFr (rO (rz (oL rI))) eNil))
abbrev l_face_in_0 : Ln E_face_in (List Str) := Ln.z
theorem a_face_in_0 : BoAt R_face_in 0 (oL rS) l_face_in_0 := BoAt.z
abbrev l_face_in_1 : Ln E_face_in (Option (List Int)) := (Ln.s Ln.z)
theorem a_face_in_1 : FrAt R_face_in 1 (rO (rz (oL rI))) l_face_in_1 := (FrAt.sB FrAt.z)
def M_face_in : E_face_in → So E_face_in (Option (List Int)) :=
    (mSeq (mSet l_face_in_1 (mCall (fun p => m_rising_in p) (mVar l_face_in_0)))
    (mSeq (mIfB (mOr (mOp gIsN (mVar l_face_in_1) (mC ())) (mOp gGt (mUn gLen (mUnw (mVar l_face_in_1))) (mC (6 : Int)))) (mRet (mNone (mC ()))) mNext)
    (mRet (mSome (mUn gId (mUnw (mVar l_face_in_1)))))))
def m_face_in (x0 : (List Str)) : Rs Unit (Option (List Int)) := (M_face_in (some x0, none, ())).run none
abbrev u_face_in (p : (List Str)) : Rs Unit (Option (List Int)) := m_face_in p
def sp_face_in (K : PySem.W.Frag) : Sp := spD K cx0 (aOne (rd (oL rS))) (fz (rO (rz (oT rI)))) u_face_in
theorem len_face_in (K : PySem.W.Frag) : ∀ vs H Q E, sp_face_in K vs H Q E → vs.length = 1 := len_D ALen.one
def t_face_in (K : PySem.W.Frag) : TS :=
    (tSeq (tAsg (tCall (sp_rising_in K) [] E0 (tCons (tVar 0) tNil)) (gName 1))
    (tSeq (tIfS (tOr (tTest (tOp rIsN (tVar 1) (tC .non))) (tTest (tOp rGt (tCB (rLenL K) (tCons (tVar 1) tNil)) (tC (.int 6))))) (tRet (tC .non)) tNext)
    (tRet (tCB (rTupOf K) (tCons (tVar 1) tNil)))))
theorem sx_face_in {K : PySem.W.Frag} : SX ⟨K, E0, cx0⟩ R_face_in (fz (rO (rz (oT rI)))) (t_face_in K) M_face_in :=
    (s_seq (s_set a_face_in_1 (x_call (x_aone (x_varL (Late.bo a_face_in_0)))))
    (s_seq (s_ifB (x_or (x_test (x_tOp v_isN Cv.id (x_var a_face_in_1) (x_is Cv.id (x_c fun _ => rfl)))) (x_test (x_tOp v_gt Cv.id (x_tCB v_lenL (x_aone (x_is Cv.ob (x_unw (x_var a_face_in_1))))) (x_is Cv.id (x_c fun _ => rfl))))) (s_ret (x_none (x_c fun _ => rfl))) s_next)
    (s_ret (x_some nn_z (x_tCB v_tupOfL (x_aone (x_is Cv.ob (x_unw (x_var a_face_in_1)))))))))
theorem rd_face_in {K : PySem.W.Frag} {H : Hp} {vs : List V} {Q : VK} {E : XK} {N : List Str} (h : sp_face_in K vs H Q E) (hN : N.length = 2 := by rfl) : t_face_in K { nx := fun _ H' => Q .non H', rt := Q } (start N vs) H := by
  have h : spD K cx0 (aOne (rd (oL rS))) (fz (rO (rz (oT rI)))) (fun (a : (List Str)) => (M_face_in (some a, none, ())).run none) vs H Q E := h
  refine d_D (dn := none) (ra := (aOne (rd (oL rS)))) (e0 := fun (a : (List Str)) => (some a, none, ())) (sx_face_in) ?_ ?_ h
  · intro G H vs a s hr
    obtain ⟨v0, rfl, h0⟩ := hr
    rw [show start N [v0] = [some v0, none] by simp [L2.start, hN]]
    exact (e_bo h0 bo_D (e_frN e_nil))
  · intro b h; cases h
abbrev E_place_in : Type := Option Str × Option (Option Int) × Unit
def R_place_in : ERep E_place_in := (eFr rS (eFr (rO rI) eNil))
abbrev l_place_in_0 : Ln E_place_in Str := Ln.z
theorem a_place_in_0 : FrAt R_place_in 0 rS l_place_in_0 := FrAt.z
abbrev l_place_in_1 : Ln E_place_in (Option Int) := (Ln.s Ln.z)
theorem a_place_in_1 : FrAt R_place_in 1 (rO rI) l_place_in_1 := (FrAt.sF FrAt.z)
def M_place_in : E_place_in → So E_place_in (Option Int) :=
    (mSeq (mSet l_place_in_1 (mCall (fun p => m_number_in p) (mVar l_place_in_0)))
    (mSeq (mIfB (mOr (mOp gIsN (mVar l_place_in_1) (mC ())) (mOp gLt (mUnw (mVar l_place_in_1)) (mC (0 : Int)))) (mRet (mNone (mC ()))) mNext)
    (mRet (mVar l_place_in_1))))
def m_place_in (x0 : Str) : Rs Unit (Option Int) := (M_place_in (some x0, none, ())).run none
abbrev u_place_in (p : Str) : Rs Unit (Option Int) := m_place_in p
def sp_place_in (K : PySem.W.Frag) : Sp := spD K cx0 (aOne (ir rS)) (fz (rO rI)) u_place_in
theorem len_place_in (K : PySem.W.Frag) : ∀ vs H Q E, sp_place_in K vs H Q E → vs.length = 1 := len_D ALen.one
def t_place_in (K : PySem.W.Frag) : TS :=
    (tSeq (tAsg (tCall (sp_number_in K) [] E0 (tCons (tVar 0) tNil)) (gName 1))
    (tSeq (tIfS (tOr (tTest (tOp rIsN (tVar 1) (tC .non))) (tTest (tOp rLt (tVar 1) (tC (.int 0))))) (tRet (tC .non)) tNext)
    (tRet (tVar 1))))
theorem sx_place_in {K : PySem.W.Frag} : SX ⟨K, E0, cx0⟩ R_place_in (fz (rO rI)) (t_place_in K) M_place_in :=
    (s_seq (s_set a_place_in_1 (x_call (x_aone (x_is Cv.id (x_var a_place_in_0)))))
    (s_seq (s_ifB (x_or (x_test (x_tOp v_isN Cv.id (x_var a_place_in_1) (x_is Cv.id (x_c fun _ => rfl)))) (x_test (x_tOp v_lt Cv.id (x_unw (x_var a_place_in_1)) (x_is Cv.id (x_c fun _ => rfl))))) (s_ret (x_none (x_c fun _ => rfl))) s_next)
    (s_ret (x_var a_place_in_1))))
theorem rd_place_in {K : PySem.W.Frag} {H : Hp} {vs : List V} {Q : VK} {E : XK} {N : List Str} (h : sp_place_in K vs H Q E) (hN : N.length = 2 := by rfl) : t_place_in K { nx := fun _ H' => Q .non H', rt := Q } (start N vs) H := by
  have h : spD K cx0 (aOne (ir rS)) (fz (rO rI)) (fun (a : Str) => (M_place_in (some a, none, ())).run none) vs H Q E := h
  refine d_D (dn := none) (ra := (aOne (ir rS))) (e0 := fun (a : Str) => (some a, none, ())) (sx_place_in) ?_ ?_ h
  · intro G H vs a s hr
    obtain ⟨v0, rfl, h0⟩ := hr
    rw [show start N [v0] = [some v0, none] by simp [L2.start, hN]]
    exact (e_fr h0 (e_frN e_nil))
  · intro b h; cases h
abbrev E_row_line : Type := Option ((List Int) × Th) × Option (List Int) × Option Th × Unit
def R_row_line : ERep E_row_line := (eFr (rz (oT2 (rz (oT rI)) rTh)) (eFr (rz (oT rI)) (eFr rTh eNil)))
abbrev l_row_line_0 : Ln E_row_line ((List Int) × Th) := Ln.z
theorem a_row_line_0 : FrAt R_row_line 0 (rz (oT2 (rz (oT rI)) rTh)) l_row_line_0 := FrAt.z
abbrev l_row_line_1 : Ln E_row_line (List Int) := (Ln.s Ln.z)
theorem a_row_line_1 : FrAt R_row_line 1 (rz (oT rI)) l_row_line_1 := (FrAt.sF FrAt.z)
abbrev l_row_line_2 : Ln E_row_line Th := (Ln.s (Ln.s Ln.z))
theorem a_row_line_2 : FrAt R_row_line 2 rTh l_row_line_2 := (FrAt.sF (FrAt.sF FrAt.z))
def M_row_line : E_row_line → So E_row_line Str :=
    (mSeq (mAsgN (mVar l_row_line_0) (p2 (pN l_row_line_1) (pN l_row_line_2)))
    (mSeq (mIfS (mOp gIsNTh (mVar l_row_line_2) (mC ())) (mRet (mCall (fun p => m_line_of (p.1) (p.2)) (mPair (mC ("set" : Str)) (mVar l_row_line_1)))) mNext)
    (mRet (mOp gAddS (mOp gAddS (mCall (fun p => m_line_of (p.1) (p.2)) (mPair (mC ("cut" : Str)) (mVar l_row_line_1))) (mC (" " : Str))) (mCall (fun p => m_line_of (p.1) (p.2)) (mPair (mC ("by" : Str)) (mOp gCat (mUn szOk (mCons (mOp gFst (mUn (asT2 asI (asTs asI)) (mVar l_row_line_2)) (mC (0 : Int))) (mC []))) (mOp gSnd (mUn (asT2 asI (asTs asI)) (mVar l_row_line_2)) (mC (1 : Int))))))))))
def m_row_line (x0 : ((List Int) × Th)) : Rs Unit Str := (M_row_line (some x0, none, none, ())).run none
abbrev u_row_line (p : ((List Int) × Th)) : Rs Unit Str := m_row_line p
def sp_row_line (K : PySem.W.Frag) : Sp := spD K cx0 (aOne (ir (rz (oT2 (rz (oT rI)) rTh)))) (fz rS) u_row_line
theorem len_row_line (K : PySem.W.Frag) : ∀ vs H Q E, sp_row_line K vs H Q E → vs.length = 1 := len_D ALen.one
def t_row_line (K : PySem.W.Frag) : TS :=
    (tSeq (tAsg (tVar 0) (gTup K 2 (gCons (gName 1) (gCons (gName 2) gNil))))
    (tSeq (tIfS (tTest (tOp rIsN (tVar 2) (tC .non))) (tRet (tCall (sp_line_of K) [] E0 (tCons (tC (.str "set")) (tCons (tVar 1) tNil)))) tNext)
    (tRet (tOp rAddS (tOp rAddS (tCall (sp_line_of K) [] E0 (tCons (tC (.str "cut")) (tCons (tVar 1) tNil))) (tC (.str " "))) (tCall (sp_line_of K) [] E0 (tCons (tC (.str "by")) (tCons (tOp (rCatA K) (tTup (tCons (tOp (rIxT K) (tVar 2) (tC (.int 0))) tNil)) (tOp (rIxT K) (tVar 2) (tC (.int 1)))) tNil)))))))
theorem sx_row_line {K : PySem.W.Frag} : SX ⟨K, E0, cx0⟩ R_row_line (fz rS) (t_row_line K) M_row_line :=
    (s_seq (s_asgN (vs := [1, 2]) (x_var a_row_line_0) (n_tup2 (n_name a_row_line_1 (by decide)) (n_name a_row_line_2 (by decide))))
    (s_seq (s_if (x_test (x_tOp v_isNTh Cv.id (x_var a_row_line_2) (x_is Cv.id (x_c fun _ => rfl)))) (s_ret (x_call (x_acons Cv.id (x_c fun _ => rfl) (x_aone (x_is Cv.id (x_var a_row_line_1)))))) s_next)
    (s_ret (x_tOp v_addS Cv.id (x_tOp v_addS Cv.id (x_call (x_acons Cv.id (x_c fun _ => rfl) (x_aone (x_is Cv.id (x_var a_row_line_1))))) (x_is Cv.id (x_c fun _ => rfl))) (x_is Cv.id (x_call (x_acons Cv.id (x_c fun _ => rfl) (x_aone (x_is Cv.id (x_tOp v_catT Cv.id (x_tup (x_lcons (x_tOp v_t20 Cv.ob (x_cast (c_asT2 c_asI (c_asTs c_asI)) (x_var a_row_line_2)) (x_is Cv.id (x_c fun _ => rfl))) x_lnil)) (x_is Cv.id (x_tOp v_t21 Cv.ob (x_cast (c_asT2 c_asI (c_asTs c_asI)) (x_var a_row_line_2)) (x_is Cv.id (x_c fun _ => rfl))))))))))))))
theorem rd_row_line {K : PySem.W.Frag} {H : Hp} {vs : List V} {Q : VK} {E : XK} {N : List Str} (h : sp_row_line K vs H Q E) (hN : N.length = 3 := by rfl) : t_row_line K { nx := fun _ H' => Q .non H', rt := Q } (start N vs) H := by
  have h : spD K cx0 (aOne (ir (rz (oT2 (rz (oT rI)) rTh)))) (fz rS) (fun (a : ((List Int) × Th)) => (M_row_line (some a, none, none, ())).run none) vs H Q E := h
  refine d_D (dn := none) (ra := (aOne (ir (rz (oT2 (rz (oT rI)) rTh))))) (e0 := fun (a : ((List Int) × Th)) => (some a, none, none, ())) (sx_row_line) ?_ ?_ h
  · intro G H vs a s hr
    obtain ⟨v0, rfl, h0⟩ := hr
    rw [show start N [v0] = [some v0, none, none] by simp [L2.start, hN]]
    exact (e_fr h0 (e_frN (e_frN e_nil)))
  · intro b h; cases h
abbrev E_lines_in : Type := Option Th × Option ((List Int) × Th) × Option (List Int) × Unit
def R_lines_in : ERep E_lines_in := (eFr rTh (eFr (rz (oT2 (rz (oT rI)) rTh)) (eFr (rz (oL rI)) eNil)))
abbrev l_lines_in_0 : Ln E_lines_in Th := Ln.z
theorem a_lines_in_0 : FrAt R_lines_in 0 rTh l_lines_in_0 := FrAt.z
abbrev l_lines_in_1 : Ln E_lines_in ((List Int) × Th) := (Ln.s Ln.z)
theorem a_lines_in_1 : FrAt R_lines_in 1 (rz (oT2 (rz (oT rI)) rTh)) l_lines_in_1 := (FrAt.sF FrAt.z)
abbrev l_lines_in_2 : Ln E_lines_in (List Int) := (Ln.s (Ln.s Ln.z))
theorem a_lines_in_2 : FrAt R_lines_in 2 (rz (oL rI)) l_lines_in_2 := (FrAt.sF (FrAt.sF FrAt.z))
def M_lines_in : E_lines_in → So E_lines_in (List Str) :=
    (mSeq (mIfS (mOp gEq (mUn asS (mOp gIx (mUn asT (mVar l_lines_in_0)) (mC (0 : Int)))) (mC ("sets" : Str))) (mRet (mLc (mUn (asLs (asT2 (asTs asI) (fun t => some t))) (mOp gIx (mUn asT (mVar l_lines_in_0)) (mC (1 : Int)))) (pN l_lines_in_1) mYes (mCall (fun p => m_row_line p) (mVar l_lines_in_1)) (fun e => Ln.put l_lines_in_1 none (id e)) (fun e e1 => (fun _ e1 => e1) e (Ln.put l_lines_in_1 (Ln.get l_lines_in_1 (id e)) e1)))) mNext)
    (mSeq (mIfS (mOp gEq (mUn asS (mOp gIx (mUn asT (mVar l_lines_in_0)) (mC (0 : Int)))) (mC ("evens" : Str))) (mRet (mLc (mUn (asLs (asLs asI)) (mOp gIx (mUn asT (mVar l_lines_in_0)) (mC (1 : Int)))) (pN l_lines_in_2) mYes (mCall (fun p => m_line_of_l (p.1) (p.2)) (mPair (mC ("even" : Str)) (mVar l_lines_in_2))) (fun e => Ln.put l_lines_in_2 none (id e)) (fun e e1 => (fun _ e1 => e1) e (Ln.put l_lines_in_2 (Ln.get l_lines_in_2 (id e)) e1)))) mNext)
    (mSeq (mIfS (mOp gEq (mUn asS (mOp gIx (mUn asT (mVar l_lines_in_0)) (mC (0 : Int)))) (mC ("apart" : Str))) (mRet (mUn szOk (mCons (mCall (fun p => m_line_of_l (p.1) (p.2)) (mPair (mC ("apart" : Str)) (mUn (asLs asI) (mOp gIx (mUn asT (mVar l_lines_in_0)) (mC (1 : Int)))))) (mC [])))) mNext)
    (mRet (mUn szOk (mCons (mCall (fun p => m_line_of (p.1) (p.2)) (mPair (mUn asS (mOp gIx (mUn asT (mVar l_lines_in_0)) (mC (0 : Int)))) (mUn szOk (mCons (mUn asI (mOp gIx (mUn asT (mVar l_lines_in_0)) (mC (1 : Int)))) (mC []))))) (mC [])))))))
def m_lines_in (x0 : Th) : Rs Unit (List Str) := (M_lines_in (some x0, none, none, ())).run none
abbrev u_lines_in (p : Th) : Rs Unit (List Str) := m_lines_in p
def sp_lines_in (K : PySem.W.Frag) : Sp := spD K cx0 (aOne (ir rTh)) (fs (oL rS)) u_lines_in
theorem len_lines_in (K : PySem.W.Frag) : ∀ vs H Q E, sp_lines_in K vs H Q E → vs.length = 1 := len_D ALen.one
def t_lines_in (K : PySem.W.Frag) : TS :=
    (tSeq (tIfS (tTest (tOp rEq (tOp (rIxT K) (tVar 0) (tC (.int 0))) (tC (.str "sets")))) (tRet (tLc (iList K (tOp (rIxT K) (tVar 0) (tC (.int 1)))) (gName 1) tYes (tCall (sp_row_line K) [] E0 (tCons (tVar 1) tNil)) [1])) tNext)
    (tSeq (tIfS (tTest (tOp rEq (tOp (rIxT K) (tVar 0) (tC (.int 0))) (tC (.str "evens")))) (tRet (tLc (iList K (tOp (rIxT K) (tVar 0) (tC (.int 1)))) (gName 2) tYes (tCall (sp_line_of_l K) [] E0 (tCons (tC (.str "even")) (tCons (tVar 2) tNil))) [2])) tNext)
    (tSeq (tIfS (tTest (tOp rEq (tOp (rIxT K) (tVar 0) (tC (.int 0))) (tC (.str "apart")))) (tRet (tLst (tCons (tCall (sp_line_of_l K) [] E0 (tCons (tC (.str "apart")) (tCons (tOp (rIxT K) (tVar 0) (tC (.int 1))) tNil))) tNil))) tNext)
    (tRet (tLst (tCons (tCall (sp_line_of K) [] E0 (tCons (tOp (rIxT K) (tVar 0) (tC (.int 0))) (tCons (tTup (tCons (tOp (rIxT K) (tVar 0) (tC (.int 1))) tNil)) tNil))) tNil))))))
theorem sx_lines_in {K : PySem.W.Frag} : SX ⟨K, E0, cx0⟩ R_lines_in (fs (oL rS)) (t_lines_in K) M_lines_in :=
    (s_seq (s_if (x_test (x_tOp v_eqS Cv.id (x_cast c_asS (x_tOp v_ixT Cv.ob (x_cast c_asT (x_var a_lines_in_0)) (x_is Cv.id (x_c fun _ => rfl)))) (x_is Cv.id (x_c fun _ => rfl)))) (s_ret (x_lc (x_iL (x_cast (c_asLs (c_asT2 (c_asTs c_asI) c_th)) (x_tOp v_ixT Cv.ob (x_cast c_asT (x_var a_lines_in_0)) (x_is Cv.id (x_c fun _ => rfl))))) (Wp.cons a_lines_in_1 Wp.nil) (n_name a_lines_in_1 (by decide)) x_yes (x_call (x_aone (x_is Cv.id (x_var a_lines_in_1)))))) s_next)
    (s_seq (s_if (x_test (x_tOp v_eqS Cv.id (x_cast c_asS (x_tOp v_ixT Cv.ob (x_cast c_asT (x_var a_lines_in_0)) (x_is Cv.id (x_c fun _ => rfl)))) (x_is Cv.id (x_c fun _ => rfl)))) (s_ret (x_lc (x_iL (x_cast (c_asLs (c_asLs c_asI)) (x_tOp v_ixT Cv.ob (x_cast c_asT (x_var a_lines_in_0)) (x_is Cv.id (x_c fun _ => rfl))))) (Wp.cons a_lines_in_2 Wp.nil) (n_name a_lines_in_2 (by decide)) x_yes (x_call (x_acons Cv.id (x_c fun _ => rfl) (x_aone (x_is Cv.ob (x_var a_lines_in_2))))))) s_next)
    (s_seq (s_if (x_test (x_tOp v_eqS Cv.id (x_cast c_asS (x_tOp v_ixT Cv.ob (x_cast c_asT (x_var a_lines_in_0)) (x_is Cv.id (x_c fun _ => rfl)))) (x_is Cv.id (x_c fun _ => rfl)))) (s_ret (x_lst (x_lcons (x_call (x_acons Cv.id (x_c fun _ => rfl) (x_aone (x_is Cv.ob (x_cast (c_asLs c_asI) (x_tOp v_ixT Cv.ob (x_cast c_asT (x_var a_lines_in_0)) (x_is Cv.id (x_c fun _ => rfl)))))))) x_lnil))) s_next)
    (s_ret (x_lst (x_lcons (x_call (x_acons Cv.id (x_cast c_asS (x_tOp v_ixT Cv.ob (x_cast c_asT (x_var a_lines_in_0)) (x_is Cv.id (x_c fun _ => rfl)))) (x_aone (x_is Cv.id (x_tup (x_lcons (x_cast c_asI (x_tOp v_ixT Cv.ob (x_cast c_asT (x_var a_lines_in_0)) (x_is Cv.id (x_c fun _ => rfl)))) x_lnil)))))) x_lnil))))))
theorem rd_lines_in {K : PySem.W.Frag} {H : Hp} {vs : List V} {Q : VK} {E : XK} {N : List Str} (h : sp_lines_in K vs H Q E) (hN : N.length = 3 := by rfl) : t_lines_in K { nx := fun _ H' => Q .non H', rt := Q } (start N vs) H := by
  have h : spD K cx0 (aOne (ir rTh)) (fs (oL rS)) (fun (a : Th) => (M_lines_in (some a, none, none, ())).run none) vs H Q E := h
  refine d_D (dn := none) (ra := (aOne (ir rTh))) (e0 := fun (a : Th) => (some a, none, none, ())) (sx_lines_in) ?_ ?_ h
  · intro G H vs a s hr
    obtain ⟨v0, rfl, h0⟩ := hr
    rw [show start N [v0] = [some v0, none, none] by simp [L2.start, hN]]
    exact (e_fr h0 (e_frN (e_frN e_nil)))
  · intro b h; cases h
abbrev E_show_bar : Type := Option Th × Option (List Str) × Unit
def R_show_bar : ERep E_show_bar := (eFr rTh (eOw (oL rS) eNil))
abbrev l_show_bar_0 : Ln E_show_bar Th := Ln.z
theorem a_show_bar_0 : FrAt R_show_bar 0 rTh l_show_bar_0 := FrAt.z
abbrev l_show_bar_1 : Ln E_show_bar (List Str) := (Ln.s Ln.z)
theorem a_show_bar_1 : OwAt R_show_bar 1 ownN (oL rS) l_show_bar_1 := (OwAt.sF OwAt.z)
def M_show_bar : E_show_bar → So E_show_bar Str :=
    (mSeq (mSet l_show_bar_1 (mUn szOk (mC ([] : List Str))))
    (mCut (mWhileN (mOp gEq (mUn asS (mOp gIx (mUn asT (mVar l_show_bar_0)) (mC (0 : Int)))) (mC ("link" : Str))) (mSeq (mDrop (mBM l_show_bar_1 gApp (mCall (fun p => m_line_of (p.1) (p.2)) (mPair (mC ("link" : Str)) (mUn (asTs asI) (mOp gIx (mUn asT (mVar l_show_bar_0)) (mC (1 : Int))))))))
    (mSet l_show_bar_0 (mOp gIx (mUn asT (mVar l_show_bar_0)) (mC (2 : Int))))) 1000000000)
    (mRet (mOp gJoin (mC ("\n" : Str)) (mOpL gCat l_show_bar_1 (mCall (fun p => m_lines_in p) (mVar l_show_bar_0)))))))
def m_show_bar (x0 : Th) : Rs Unit Str := (M_show_bar (some x0, none, ())).run none
abbrev u_show_bar (p : Th) : Rs Unit Str := m_show_bar p
def sp_show_bar (K : PySem.W.Frag) : Sp := spD K cx0 (aOne (ir rTh)) (fz rS) u_show_bar
theorem len_show_bar (K : PySem.W.Frag) : ∀ vs H Q E, sp_show_bar K vs H Q E → vs.length = 1 := len_D ALen.one
def t_show_bar (K : PySem.W.Frag) : TS :=
    (tSeq (tAsg (tLst tNil) (gName 1))
    (tSeq (tWhile (tTest (tOp rEq (tOp (rIxT K) (tVar 0) (tC (.int 0))) (tC (.str "link")))) (tSeq (tDrop (tBM K "list" rAppend (tVar 1) (tCons (tCall (sp_line_of K) [] E0 (tCons (tC (.str "link")) (tCons (tOp (rIxT K) (tVar 0) (tC (.int 1))) tNil))) tNil)))
    (tAsg (tOp (rIxT K) (tVar 0) (tC (.int 2))) (gName 0))))
    (tRet (tM1 (rJoin K) (tC (.str "\n")) (tOp rCat (tVar 1) (tCall (sp_lines_in K) [] E0 (tCons (tVar 0) tNil)))))))
theorem sx_show_bar {K : PySem.W.Frag} : SX ⟨K, E0, cx0⟩ R_show_bar (fz rS) (t_show_bar K) M_show_bar :=
    (s_seq (s_setO a_show_bar_1 (x_lst (x_lnil (r := rS))))
    (s_seqC (s_while 1000000000 (x_test (x_tOp v_eqS Cv.id (x_cast c_asS (x_tOp v_ixT Cv.ob (x_cast c_asT (x_var a_show_bar_0)) (x_is Cv.id (x_c fun _ => rfl)))) (x_is Cv.id (x_c fun _ => rfl)))) (s_seq (s_drop (x_bm v_app ty_L nt_L ownN_q a_show_bar_1 (x_gone (x_call (x_acons Cv.id (x_c fun _ => rfl) (x_aone (x_is Cv.id (x_cast (c_asTs c_asI) (x_tOp v_ixT Cv.ob (x_cast c_asT (x_var a_show_bar_0)) (x_is Cv.id (x_c fun _ => rfl)))))))))))
    (s_set a_show_bar_0 (x_tOp v_ixT Cv.ob (x_cast c_asT (x_var a_show_bar_0)) (x_is Cv.id (x_c fun _ => rfl))))))
    (s_ret (x_join (x_c fun _ => rfl) (x_fz (x_tOpLF v_cat (Late.ow a_show_bar_1) (x_is Cv.ob (x_fz (x_callF (x_aone (x_is Cv.id (x_var a_show_bar_0))))))))))))
theorem rd_show_bar {K : PySem.W.Frag} {H : Hp} {vs : List V} {Q : VK} {E : XK} {N : List Str} (h : sp_show_bar K vs H Q E) (hN : N.length = 2 := by rfl) : t_show_bar K { nx := fun _ H' => Q .non H', rt := Q } (start N vs) H := by
  have h : spD K cx0 (aOne (ir rTh)) (fz rS) (fun (a : Th) => (M_show_bar (some a, none, ())).run none) vs H Q E := h
  refine d_D (dn := none) (ra := (aOne (ir rTh))) (e0 := fun (a : Th) => (some a, none, ())) (sx_show_bar) ?_ ?_ h
  · intro G H vs a s hr
    obtain ⟨v0, rfl, h0⟩ := hr
    rw [show start N [v0] = [some v0, none] by simp [L2.start, hN]]
    exact (e_fr h0 (e_owN e_nil))
  · intro b h; cases h
abbrev E_word_of : Type := Option Str × Unit
def R_word_of : ERep E_word_of := (eFr rS eNil)
abbrev l_word_of_0 : Ln E_word_of Str := Ln.z
theorem a_word_of_0 : FrAt R_word_of 0 rS l_word_of_0 := FrAt.z
def M_word_of : E_word_of → So E_word_of Str :=
    (mRet (mOp gIx (mOp gSplit (mVar l_word_of_0) (mC (" " : Str))) (mC (0 : Int))))
def m_word_of (x0 : Str) : Rs Unit Str := (M_word_of (some x0, ())).run none
abbrev u_word_of (p : Str) : Rs Unit Str := m_word_of p
def sp_word_of (K : PySem.W.Frag) : Sp := spD K cx0 (aOne (ir rS)) (fz rS) u_word_of
theorem len_word_of (K : PySem.W.Frag) : ∀ vs H Q E, sp_word_of K vs H Q E → vs.length = 1 := len_D ALen.one
def t_word_of (K : PySem.W.Frag) : TS :=
    (tRet (tOp (rIxL K) (tM1 rSplit (tVar 0) (tC (.str " "))) (tC (.int 0))))
theorem sx_word_of {K : PySem.W.Frag} : SX ⟨K, E0, cx0⟩ R_word_of (fz rS) (t_word_of K) M_word_of :=
    (s_ret (x_tOp v_ixL Cv.ob (x_fz (x_split (x_var a_word_of_0) (x_c fun _ => rfl))) (x_is Cv.id (x_c fun _ => rfl))))
theorem rd_word_of {K : PySem.W.Frag} {H : Hp} {vs : List V} {Q : VK} {E : XK} {N : List Str} (h : sp_word_of K vs H Q E) (hN : N.length = 1 := by rfl) : t_word_of K { nx := fun _ H' => Q .non H', rt := Q } (start N vs) H := by
  have h : spD K cx0 (aOne (ir rS)) (fz rS) (fun (a : Str) => (M_word_of (some a, ())).run none) vs H Q E := h
  refine d_D (dn := none) (ra := (aOne (ir rS))) (e0 := fun (a : Str) => (some a, ())) (sx_word_of) ?_ ?_ h
  · intro G H vs a s hr
    obtain ⟨v0, rfl, h0⟩ := hr
    rw [show start N [v0] = [some v0] by simp [L2.start, hN]]
    exact (e_fr h0 e_nil)
  · intro b h; cases h
abbrev E_some_in : Type := Option (List Str) × Option (Option (List Int)) × Unit
def R_some_in : ERep E_some_in := (eBo (oL rS) (eFr (rO (rz (oL rI))) eNil))
abbrev l_some_in_0 : Ln E_some_in (List Str) := Ln.z
theorem a_some_in_0 : BoAt R_some_in 0 (oL rS) l_some_in_0 := BoAt.z
abbrev l_some_in_1 : Ln E_some_in (Option (List Int)) := (Ln.s Ln.z)
theorem a_some_in_1 : FrAt R_some_in 1 (rO (rz (oL rI))) l_some_in_1 := (FrAt.sB FrAt.z)
def M_some_in : E_some_in → So E_some_in (Option (List Int)) :=
    (mSeq (mSet l_some_in_1 (mCall (fun p => m_rising_in p) (mVar l_some_in_0)))
    (mSeq (mIfB (mOr (mOp gIsN (mVar l_some_in_1) (mC ())) (mAnd (mOp gNe (mUnw (mVar l_some_in_1)) (mUn szOk (mC ([] : List Int)))) (mOp gLt (mOp gIx (mUnw (mVar l_some_in_1)) (mC (0 : Int))) (mC (0 : Int))))) (mRet (mNone (mC ()))) mNext)
    (mRet (mVar l_some_in_1))))
def m_some_in (x0 : (List Str)) : Rs Unit (Option (List Int)) := (M_some_in (some x0, none, ())).run none
abbrev u_some_in (p : (List Str)) : Rs Unit (Option (List Int)) := m_some_in p
def sp_some_in (K : PySem.W.Frag) : Sp := spD K cx0 (aOne (rd (oL rS))) (fz (rO (rz (oL rI)))) u_some_in
theorem len_some_in (K : PySem.W.Frag) : ∀ vs H Q E, sp_some_in K vs H Q E → vs.length = 1 := len_D ALen.one
def t_some_in (K : PySem.W.Frag) : TS :=
    (tSeq (tAsg (tCall (sp_rising_in K) [] E0 (tCons (tVar 0) tNil)) (gName 1))
    (tSeq (tIfS (tOr (tTest (tOp rIsN (tVar 1) (tC .non))) (tAnd (tTest (tOp (rNeD K) (tVar 1) (tLst tNil))) (tTest (tOp rLt (tOp (rIxL K) (tVar 1) (tC (.int 0))) (tC (.int 0)))))) (tRet (tC .non)) tNext)
    (tRet (tVar 1))))
theorem sx_some_in {K : PySem.W.Frag} : SX ⟨K, E0, cx0⟩ R_some_in (fz (rO (rz (oL rI)))) (t_some_in K) M_some_in :=
    (s_seq (s_set a_some_in_1 (x_call (x_aone (x_varL (Late.bo a_some_in_0)))))
    (s_seq (s_ifB (x_or (x_test (x_tOp v_isN Cv.id (x_var a_some_in_1) (x_is Cv.id (x_c fun _ => rfl)))) (x_and (x_test (x_tOp (v_neD (da_Lr da_I) (da_Lr da_I) (eq_L eq_I) (by decide)) Cv.ob (x_unw (x_var a_some_in_1)) (x_is Cv.ob (x_fz (x_lst (x_lnil (r := rI))))))) (x_test (x_tOp v_lt Cv.id (x_tOp v_ixL Cv.ob (x_unw (x_var a_some_in_1)) (x_is Cv.id (x_c fun _ => rfl))) (x_is Cv.id (x_c fun _ => rfl)))))) (s_ret (x_none (x_c fun _ => rfl))) s_next)
    (s_ret (x_var a_some_in_1))))
theorem rd_some_in {K : PySem.W.Frag} {H : Hp} {vs : List V} {Q : VK} {E : XK} {N : List Str} (h : sp_some_in K vs H Q E) (hN : N.length = 2 := by rfl) : t_some_in K { nx := fun _ H' => Q .non H', rt := Q } (start N vs) H := by
  have h : spD K cx0 (aOne (rd (oL rS))) (fz (rO (rz (oL rI)))) (fun (a : (List Str)) => (M_some_in (some a, none, ())).run none) vs H Q E := h
  refine d_D (dn := none) (ra := (aOne (rd (oL rS)))) (e0 := fun (a : (List Str)) => (some a, none, ())) (sx_some_in) ?_ ?_ h
  · intro G H vs a s hr
    obtain ⟨v0, rfl, h0⟩ := hr
    rw [show start N [v0] = [some v0, none] by simp [L2.start, hN]]
    exact (e_bo h0 bo_D (e_frN e_nil))
  · intro b h; cases h
abbrev E_cut_in : Type := Option (List Str) × Option (Option Int) × Option (Option (List Int)) × Unit
def R_cut_in : ERep E_cut_in := (eBo (oL rS) (eFr (rO rI) (eFr (rO (rz (oT rI))) eNil)))
abbrev l_cut_in_0 : Ln E_cut_in (List Str) := Ln.z
theorem a_cut_in_0 : BoAt R_cut_in 0 (oL rS) l_cut_in_0 := BoAt.z
abbrev l_cut_in_1 : Ln E_cut_in (Option Int) := (Ln.s Ln.z)
theorem a_cut_in_1 : FrAt R_cut_in 1 (rO rI) l_cut_in_1 := (FrAt.sB FrAt.z)
abbrev l_cut_in_2 : Ln E_cut_in (Option (List Int)) := (Ln.s (Ln.s Ln.z))
theorem a_cut_in_2 : FrAt R_cut_in 2 (rO (rz (oT rI))) l_cut_in_2 := (FrAt.sB (FrAt.sF FrAt.z))
def M_cut_in : E_cut_in → So E_cut_in (Option (Int × (List Int))) :=
    (mSeq (mIfS (mOpL gEqN l_cut_in_0 (mUn szOk (mC ([] : List Str)))) (mRet (mNone (mC ()))) mNext)
    (mSeq (mSet l_cut_in_1 (mCall (fun p => m_place_in p) (mOpL gIx l_cut_in_0 (mC (0 : Int)))))
    (mSeq (mSet l_cut_in_2 (mCall (fun p => m_face_in p) (mSlL gCut l_cut_in_0 (mPart (mC (1 : Int))) (mC none))))
    (mSeq (mIfB (mOr (mOp gIsN (mVar l_cut_in_1) (mC ())) (mOp gIsN (mVar l_cut_in_2) (mC ()))) (mRet (mNone (mC ()))) mNext)
    (mRet (mSome (mUn some (mPair (mUnw (mVar l_cut_in_1)) (mUnw (mVar l_cut_in_2))))))))))
def m_cut_in (x0 : (List Str)) : Rs Unit (Option (Int × (List Int))) := (M_cut_in (some x0, none, none, ())).run none
abbrev u_cut_in (p : (List Str)) : Rs Unit (Option (Int × (List Int))) := m_cut_in p
def sp_cut_in (K : PySem.W.Frag) : Sp := spD K cx0 (aOne (rd (oL rS))) (fz (rO (rz (oT2 rI (rz (oT rI)))))) u_cut_in
theorem len_cut_in (K : PySem.W.Frag) : ∀ vs H Q E, sp_cut_in K vs H Q E → vs.length = 1 := len_D ALen.one
def t_cut_in (K : PySem.W.Frag) : TS :=
    (tSeq (tIfS (tTest (tOp (rEqN K) (tVar 0) (tLst tNil))) (tRet (tC .non)) tNext)
    (tSeq (tAsg (tCall (sp_place_in K) [] E0 (tCons (tOp (rIxL K) (tVar 0) (tC (.int 0))) tNil)) (gName 1))
    (tSeq (tAsg (tCall (sp_face_in K) [] E0 (tCons (tSl (rSlL K) (tVar 0) (tPart (tC (.int 1))) tNoPart) tNil)) (gName 2))
    (tSeq (tIfS (tOr (tTest (tOp rIsN (tVar 1) (tC .non))) (tTest (tOp rIsN (tVar 2) (tC .non)))) (tRet (tC .non)) tNext)
    (tRet (tTup (tCons (tVar 1) (tCons (tVar 2) tNil))))))))
theorem sx_cut_in {K : PySem.W.Frag} : SX ⟨K, E0, cx0⟩ R_cut_in (fz (rO (rz (oT2 rI (rz (oT rI)))))) (t_cut_in K) M_cut_in :=
    (s_seq (s_if (x_test (x_tOpL v_eqN (Late.bo a_cut_in_0) (x_is Cv.ob (x_fz (x_lst (x_lnil (r := rS))))))) (s_ret (x_none (x_c fun _ => rfl))) s_next)
    (s_seq (s_set a_cut_in_1 (x_call (x_aone (x_is Cv.id (x_tOpL v_ixL (Late.bo a_cut_in_0) (x_is Cv.id (x_c fun _ => rfl)))))))
    (s_seq (s_set a_cut_in_2 (x_call (x_aone (x_is Cv.ob (x_fz (x_slLF v_slL (Late.bo a_cut_in_0) (x_part (x_c fun _ => rfl)) x_noPart))))))
    (s_seq (s_ifB (x_or (x_test (x_tOp v_isN Cv.id (x_var a_cut_in_1) (x_is Cv.id (x_c fun _ => rfl)))) (x_test (x_tOp v_isN Cv.id (x_var a_cut_in_2) (x_is Cv.id (x_c fun _ => rfl))))) (s_ret (x_none (x_c fun _ => rfl))) s_next)
    (s_ret (x_some nn_z (x_tup2 (x_p2 (x_unw (x_var a_cut_in_1)) (x_unw (x_var a_cut_in_2))))))))))
theorem rd_cut_in {K : PySem.W.Frag} {H : Hp} {vs : List V} {Q : VK} {E : XK} {N : List Str} (h : sp_cut_in K vs H Q E) (hN : N.length = 3 := by rfl) : t_cut_in K { nx := fun _ H' => Q .non H', rt := Q } (start N vs) H := by
  have h : spD K cx0 (aOne (rd (oL rS))) (fz (rO (rz (oT2 rI (rz (oT rI)))))) (fun (a : (List Str)) => (M_cut_in (some a, none, none, ())).run none) vs H Q E := h
  refine d_D (dn := none) (ra := (aOne (rd (oL rS)))) (e0 := fun (a : (List Str)) => (some a, none, none, ())) (sx_cut_in) ?_ ?_ h
  · intro G H vs a s hr
    obtain ⟨v0, rfl, h0⟩ := hr
    rw [show start N [v0] = [some v0, none, none] by simp [L2.start, hN]]
    exact (e_bo h0 bo_D (e_frN (e_frN e_nil)))
  · intro b h; cases h
abbrev E_set_in : Type := Option Str × Option (List Str) × Option (Option (List Int)) × Option Int × Option (Option (Int × (List Int))) × Unit
def R_set_in : ERep E_set_in := (eFr rS (eFr (rz (oL rS)) (eFr (rO (rz (oL rI))) (eFr rI (eFr (rO (rz (oT2 rI (rz (oT rI))))) eNil)))))
abbrev l_set_in_0 : Ln E_set_in Str := Ln.z
theorem a_set_in_0 : FrAt R_set_in 0 rS l_set_in_0 := FrAt.z
abbrev l_set_in_1 : Ln E_set_in (List Str) := (Ln.s Ln.z)
theorem a_set_in_1 : FrAt R_set_in 1 (rz (oL rS)) l_set_in_1 := (FrAt.sF FrAt.z)
abbrev l_set_in_2 : Ln E_set_in (Option (List Int)) := (Ln.s (Ln.s Ln.z))
theorem a_set_in_2 : FrAt R_set_in 2 (rO (rz (oL rI))) l_set_in_2 := (FrAt.sF (FrAt.sF FrAt.z))
abbrev l_set_in_3 : Ln E_set_in Int := (Ln.s (Ln.s (Ln.s Ln.z)))
theorem a_set_in_3 : FrAt R_set_in 3 rI l_set_in_3 := (FrAt.sF (FrAt.sF (FrAt.sF FrAt.z)))
abbrev l_set_in_4 : Ln E_set_in (Option (Int × (List Int))) := (Ln.s (Ln.s (Ln.s (Ln.s Ln.z))))
theorem a_set_in_4 : FrAt R_set_in 4 (rO (rz (oT2 rI (rz (oT rI))))) l_set_in_4 := (FrAt.sF (FrAt.sF (FrAt.sF (FrAt.sF FrAt.z))))
def M_set_in : E_set_in → So E_set_in (Option ((List Int) × Th)) :=
    (mSeq (mSet l_set_in_1 (mOp gSplit (mVar l_set_in_0) (mC (" " : Str))))
    (mSeq (mKill (fun e => (Ln.put l_set_in_2 none e)) (mIfS (mOp gEq (mOp gIx (mVar l_set_in_1) (mC (0 : Int))) (mC ("set" : Str))) (mSeq (mSet l_set_in_2 (mCall (fun p => m_some_in p) (mSl gCut (mVar l_set_in_1) (mPart (mC (1 : Int))) (mC none))))
    (mRet (mIf (mOp gIsN (mVar l_set_in_2) (mC ())) (mNone (mC ())) (mSome (mUn some (mPair (mUn gId (mUnw (mVar l_set_in_2))) (mUn (toTh (fun _ => Th.non)) (mC ())))))))) mNext))
    (mSeq (mIfB (mOr (mOp gNe (mOp gIx (mVar l_set_in_1) (mC (0 : Int))) (mC ("cut" : Str))) (mOp gNin (mC ("by" : Str)) (mVar l_set_in_1))) (mRet (mNone (mC ()))) mNext)
    (mSeq (mSet l_set_in_3 (mOp gIdxS (mVar l_set_in_1) (mC ("by" : Str))))
    (mSeq (mSet l_set_in_2 (mCall (fun p => m_some_in p) (mSl gCut (mVar l_set_in_1) (mPart (mC (1 : Int))) (mPart (mVar l_set_in_3)))))
    (mSeq (mSet l_set_in_4 (mCall (fun p => m_cut_in p) (mSl gCut (mVar l_set_in_1) (mPart (mOp gAdd (mVar l_set_in_3) (mC (1 : Int)))) (mC none))))
    (mSeq (mIfB (mOr (mOp gIsN (mVar l_set_in_2) (mC ())) (mOp gIsN (mVar l_set_in_4) (mC ()))) (mRet (mNone (mC ()))) mNext)
    (mRet (mSome (mUn some (mPair (mUn gId (mUnw (mVar l_set_in_2))) (mUn (toTh (oTh (fun p => Th.tup [Th.int p.1, (fun xs => Th.tup (List.map Th.int xs)) p.2]))) (mVar l_set_in_4)))))))))))))
def m_set_in (x0 : Str) : Rs Unit (Option ((List Int) × Th)) := (M_set_in (some x0, none, none, none, none, ())).run none
abbrev u_set_in (p : Str) : Rs Unit (Option ((List Int) × Th)) := m_set_in p
def sp_set_in (K : PySem.W.Frag) : Sp := spD K cx0 (aOne (ir rS)) (fz (rO (rz (oT2 (rz (oT rI)) rTh)))) u_set_in
theorem len_set_in (K : PySem.W.Frag) : ∀ vs H Q E, sp_set_in K vs H Q E → vs.length = 1 := len_D ALen.one
def t_set_in (K : PySem.W.Frag) : TS :=
    (tSeq (tAsg (tM1 rSplit (tVar 0) (tC (.str " "))) (gName 1))
    (tSeq (tIfS (tTest (tOp rEq (tOp (rIxL K) (tVar 1) (tC (.int 0))) (tC (.str "set")))) (tSeq (tAsg (tCall (sp_some_in K) [] E0 (tCons (tSl (rSlL K) (tVar 1) (tPart (tC (.int 1))) tNoPart) tNil)) (gName 2))
    (tRet (tIf (tTest (tOp rIsN (tVar 2) (tC .non))) (tC .non) (tTup (tCons (tCB (rTupOf K) (tCons (tVar 2) tNil)) (tCons (tC .non) tNil)))))) tNext)
    (tSeq (tIfS (tOr (tTest (tOp rNe (tOp (rIxL K) (tVar 1) (tC (.int 0))) (tC (.str "cut")))) (tTest (tOp (rIn K true) (tC (.str "by")) (tVar 1)))) (tRet (tC .non)) tNext)
    (tSeq (tAsg (tBM K "list" (rIndex K) (tVar 1) (tCons (tC (.str "by")) tNil)) (gName 3))
    (tSeq (tAsg (tCall (sp_some_in K) [] E0 (tCons (tSl (rSlL K) (tVar 1) (tPart (tC (.int 1))) (tPart (tVar 3))) tNil)) (gName 2))
    (tSeq (tAsg (tCall (sp_cut_in K) [] E0 (tCons (tSl (rSlL K) (tVar 1) (tPart (tOp rAdd (tVar 3) (tC (.int 1)))) tNoPart) tNil)) (gName 4))
    (tSeq (tIfS (tOr (tTest (tOp rIsN (tVar 2) (tC .non))) (tTest (tOp rIsN (tVar 4) (tC .non)))) (tRet (tC .non)) tNext)
    (tRet (tTup (tCons (tCB (rTupOf K) (tCons (tVar 2) tNil)) (tCons (tVar 4) tNil)))))))))))
theorem sx_set_in {K : PySem.W.Frag} : SX ⟨K, E0, cx0⟩ R_set_in (fz (rO (rz (oT2 (rz (oT rI)) rTh)))) (t_set_in K) M_set_in :=
    (s_seq (s_set a_set_in_1 (x_fz (x_split (x_var a_set_in_0) (x_c fun _ => rfl))))
    (s_seq (s_kill (Kl.fr a_set_in_2) (s_if (x_test (x_tOp v_eqS Cv.id (x_tOp v_ixL Cv.ob (x_var a_set_in_1) (x_is Cv.id (x_c fun _ => rfl))) (x_is Cv.id (x_c fun _ => rfl)))) (s_seq (s_set a_set_in_2 (x_call (x_aone (x_is Cv.ob (x_fz (x_slF v_slL Cv.ob (x_var a_set_in_1) (x_part (x_c fun _ => rfl)) x_noPart))))))
    (s_ret (x_if (x_test (x_tOp v_isN Cv.id (x_var a_set_in_2) (x_is Cv.id (x_c fun _ => rfl)))) (x_none (x_c fun _ => rfl)) (x_some nn_z (x_tup2 (x_p2 (x_tCB v_tupOfL (x_aone (x_is Cv.ob (x_unw (x_var a_set_in_2))))) (x_cast ci_N (x_c fun _ => rfl)))))))) s_next))
    (s_seq (s_ifB (x_or (x_test (x_tOp v_neS Cv.id (x_tOp v_ixL Cv.ob (x_var a_set_in_1) (x_is Cv.id (x_c fun _ => rfl))) (x_is Cv.id (x_c fun _ => rfl)))) (x_test (x_tOp v_ninLS Cv.id (x_c fun _ => rfl) (x_is Cv.ob (x_var a_set_in_1))))) (s_ret (x_none (x_c fun _ => rfl))) s_next)
    (s_seq (s_set a_set_in_3 (x_idxS (x_var a_set_in_1) (x_gone (x_c fun _ => rfl))))
    (s_seq (s_set a_set_in_2 (x_call (x_aone (x_is Cv.ob (x_fz (x_slF v_slL Cv.ob (x_var a_set_in_1) (x_part (x_c fun _ => rfl)) (x_part (x_var a_set_in_3))))))))
    (s_seq (s_set a_set_in_4 (x_call (x_aone (x_is Cv.ob (x_fz (x_slF v_slL Cv.ob (x_var a_set_in_1) (x_part (x_tOp v_add Cv.id (x_var a_set_in_3) (x_is Cv.id (x_c fun _ => rfl)))) x_noPart))))))
    (s_seq (s_ifB (x_or (x_test (x_tOp v_isN Cv.id (x_var a_set_in_2) (x_is Cv.id (x_c fun _ => rfl)))) (x_test (x_tOp v_isN Cv.id (x_var a_set_in_4) (x_is Cv.id (x_c fun _ => rfl))))) (s_ret (x_none (x_c fun _ => rfl))) s_next)
    (s_ret (x_some nn_z (x_tup2 (x_p2 (x_tCB v_tupOfL (x_aone (x_is Cv.ob (x_unw (x_var a_set_in_2))))) (x_cast (ci_Oo (ci_T2 ci_I (ci_T ci_I))) (x_var a_set_in_4)))))))))))))
theorem rd_set_in {K : PySem.W.Frag} {H : Hp} {vs : List V} {Q : VK} {E : XK} {N : List Str} (h : sp_set_in K vs H Q E) (hN : N.length = 5 := by rfl) : t_set_in K { nx := fun _ H' => Q .non H', rt := Q } (start N vs) H := by
  have h : spD K cx0 (aOne (ir rS)) (fz (rO (rz (oT2 (rz (oT rI)) rTh)))) (fun (a : Str) => (M_set_in (some a, none, none, none, none, ())).run none) vs H Q E := h
  refine d_D (dn := none) (ra := (aOne (ir rS))) (e0 := fun (a : Str) => (some a, none, none, none, none, ())) (sx_set_in) ?_ ?_ h
  · intro G H vs a s hr
    obtain ⟨v0, rfl, h0⟩ := hr
    rw [show start N [v0] = [some v0, none, none, none, none] by simp [L2.start, hN]]
    exact (e_fr h0 (e_frN (e_frN (e_frN (e_frN e_nil)))))
  · intro b h; cases h
abbrev E_even_in : Type := Option Str × Option (List Str) × Unit
def R_even_in : ERep E_even_in := (eFr rS (eFr (rz (oL rS)) eNil))
abbrev l_even_in_0 : Ln E_even_in Str := Ln.z
theorem a_even_in_0 : FrAt R_even_in 0 rS l_even_in_0 := FrAt.z
abbrev l_even_in_1 : Ln E_even_in (List Str) := (Ln.s Ln.z)
theorem a_even_in_1 : FrAt R_even_in 1 (rz (oL rS)) l_even_in_1 := (FrAt.sF FrAt.z)
def M_even_in : E_even_in → So E_even_in (Option (List Int)) :=
    (mSeq (mSet l_even_in_1 (mOp gSplit (mVar l_even_in_0) (mC (" " : Str))))
    (mSeq (mIfS (mOp gNe (mOp gIx (mVar l_even_in_1) (mC (0 : Int))) (mC ("even" : Str))) (mRet (mNone (mC ()))) mNext)
    (mRet (mUn gOrN (mCall (fun p => m_some_in p) (mSl gCut (mVar l_even_in_1) (mPart (mC (1 : Int))) (mC none)))))))
def m_even_in (x0 : Str) : Rs Unit (Option (List Int)) := (M_even_in (some x0, none, ())).run none
abbrev u_even_in (p : Str) : Rs Unit (Option (List Int)) := m_even_in p
def sp_even_in (K : PySem.W.Frag) : Sp := spD K cx0 (aOne (ir rS)) (fz (rO (rz (oL rI)))) u_even_in
theorem len_even_in (K : PySem.W.Frag) : ∀ vs H Q E, sp_even_in K vs H Q E → vs.length = 1 := len_D ALen.one
def t_even_in (K : PySem.W.Frag) : TS :=
    (tSeq (tAsg (tM1 rSplit (tVar 0) (tC (.str " "))) (gName 1))
    (tSeq (tIfS (tTest (tOp rNe (tOp (rIxL K) (tVar 1) (tC (.int 0))) (tC (.str "even")))) (tRet (tC .non)) tNext)
    (tRet (tOrN K (tCall (sp_some_in K) [] E0 (tCons (tSl (rSlL K) (tVar 1) (tPart (tC (.int 1))) tNoPart) tNil)) (tC .non)))))
theorem sx_even_in {K : PySem.W.Frag} : SX ⟨K, E0, cx0⟩ R_even_in (fz (rO (rz (oL rI)))) (t_even_in K) M_even_in :=
    (s_seq (s_set a_even_in_1 (x_fz (x_split (x_var a_even_in_0) (x_c fun _ => rfl))))
    (s_seq (s_if (x_test (x_tOp v_neS Cv.id (x_tOp v_ixL Cv.ob (x_var a_even_in_1) (x_is Cv.id (x_c fun _ => rfl))) (x_is Cv.id (x_c fun _ => rfl)))) (s_ret (x_none (x_c fun _ => rfl))) s_next)
    (s_ret (x_orN (x_call (x_aone (x_is Cv.ob (x_fz (x_slF v_slL Cv.ob (x_var a_even_in_1) (x_part (x_c fun _ => rfl)) x_noPart)))))))))
theorem rd_even_in {K : PySem.W.Frag} {H : Hp} {vs : List V} {Q : VK} {E : XK} {N : List Str} (h : sp_even_in K vs H Q E) (hN : N.length = 2 := by rfl) : t_even_in K { nx := fun _ H' => Q .non H', rt := Q } (start N vs) H := by
  have h : spD K cx0 (aOne (ir rS)) (fz (rO (rz (oL rI)))) (fun (a : Str) => (M_even_in (some a, none, ())).run none) vs H Q E := h
  refine d_D (dn := none) (ra := (aOne (ir rS))) (e0 := fun (a : Str) => (some a, none, ())) (sx_even_in) ?_ ?_ h
  · intro G H vs a s hr
    obtain ⟨v0, rfl, h0⟩ := hr
    rw [show start N [v0] = [some v0, none] by simp [L2.start, hN]]
    exact (e_fr h0 (e_frN e_nil))
  · intro b h; cases h
abbrev E_many_read_e : Type := Option (List Str) × Option Int × Option (Str → Rs Unit (Option (List Int))) × Option (List (List Int)) × Option Int × Option (Option (List Int)) × Unit
def R_many_read_e (P : Program) (w : World) (mg : Str → Option Value) (base : Heap) : ERep E_many_read_e := (eBo (oL rS) (eFr rI (eFr (rFn P w mg base 5 (aOne (ir rS)) (fz (rO (rz (oL rI))))) (eOw (oL (rz (oL rI))) (eFr rI (eFr (rO (rz (oL rI))) eNil))))))
abbrev l_many_read_e_0 : Ln E_many_read_e (List Str) := Ln.z
theorem a_many_read_e_0 {P : Program} {w : World} {mg : Str → Option Value} {base : Heap} : BoAt (R_many_read_e P w mg base) 0 (oL rS) l_many_read_e_0 := BoAt.z
abbrev l_many_read_e_1 : Ln E_many_read_e Int := (Ln.s Ln.z)
theorem a_many_read_e_1 {P : Program} {w : World} {mg : Str → Option Value} {base : Heap} : FrAt (R_many_read_e P w mg base) 1 rI l_many_read_e_1 := (FrAt.sB FrAt.z)
abbrev l_many_read_e_2 : Ln E_many_read_e (Str → Rs Unit (Option (List Int))) := (Ln.s (Ln.s Ln.z))
theorem a_many_read_e_2 {P : Program} {w : World} {mg : Str → Option Value} {base : Heap} : FrAt (R_many_read_e P w mg base) 2 (rFn P w mg base 5 (aOne (ir rS)) (fz (rO (rz (oL rI))))) l_many_read_e_2 := (FrAt.sB (FrAt.sF FrAt.z))
abbrev l_many_read_e_3 : Ln E_many_read_e (List (List Int)) := (Ln.s (Ln.s (Ln.s Ln.z)))
theorem a_many_read_e_3 {P : Program} {w : World} {mg : Str → Option Value} {base : Heap} : OwAt (R_many_read_e P w mg base) 3 ownN (oL (rz (oL rI))) l_many_read_e_3 := (OwAt.sB (OwAt.sF (OwAt.sF OwAt.z)))
abbrev l_many_read_e_4 : Ln E_many_read_e Int := (Ln.s (Ln.s (Ln.s (Ln.s Ln.z))))
theorem a_many_read_e_4 {P : Program} {w : World} {mg : Str → Option Value} {base : Heap} : FrAt (R_many_read_e P w mg base) 4 rI l_many_read_e_4 := (FrAt.sB (FrAt.sF (FrAt.sF (FrAt.sO FrAt.z))))
abbrev l_many_read_e_5 : Ln E_many_read_e (Option (List Int)) := (Ln.s (Ln.s (Ln.s (Ln.s (Ln.s Ln.z)))))
theorem a_many_read_e_5 {P : Program} {w : World} {mg : Str → Option Value} {base : Heap} : FrAt (R_many_read_e P w mg base) 5 (rO (rz (oL rI))) l_many_read_e_5 := (FrAt.sB (FrAt.sF (FrAt.sF (FrAt.sO (FrAt.sF FrAt.z)))))
def M_many_read_e : E_many_read_e → So E_many_read_e (List (List Int)) :=
    (mSeq (mSet l_many_read_e_3 (mUn szOk (mC ([] : List (List Int)))))
    (mCut (mKill (fun e => (Ln.put l_many_read_e_4 none (Ln.put l_many_read_e_5 none e))) (mFor (mRng2 (mPair (mVar l_many_read_e_1) (mUn gLen (mVar l_many_read_e_0)))) (pN l_many_read_e_4)
    (mKill (fun e => (Ln.put l_many_read_e_4 none (Ln.put l_many_read_e_5 none e))) (mSeq (mSet l_many_read_e_5 (mCallX (mVar l_many_read_e_2) (mOpL gIx l_many_read_e_0 (mVar l_many_read_e_4))))
    (mSeq (mIfS (mOp gIsN (mVar l_many_read_e_5) (mC ())) mNever mNext)
    (mDrop (mBM l_many_read_e_3 gApp (mUnw (mVar l_many_read_e_5)))))))))
    (mRet (mMove l_many_read_e_3))))
def m_many_read_e (x0 : (List Str)) (x1 : Int) (x2 : (Str → Rs Unit (Option (List Int)))) : Rs Unit (List (List Int)) := (M_many_read_e (some x0, some x1, some x2, none, none, none, ())).run none
abbrev u_many_read_e (p : (List Str) × Int × (Str → Rs Unit (Option (List Int)))) : Rs Unit (List (List Int)) := m_many_read_e (p.1) (p.2.1) (p.2.2)
def sp_many_read_e (K : PySem.W.Frag) (P : Program) (w : World) (mg : Str → Option Value) (base : Heap) : Sp := spD K cx0 (aCons (rd (oL rS)) (aCons (ir rI) (aOne (ir (rFn P w mg base 5 (aOne (ir rS)) (fz (rO (rz (oL rI))))))))) (fs (oL (rz (oL rI)))) u_many_read_e
theorem len_many_read_e (K : PySem.W.Frag) (P : Program) (w : World) (mg : Str → Option Value) (base : Heap) : ∀ vs H Q E, sp_many_read_e K P w mg base vs H Q E → vs.length = 3 := len_D (ALen.cons (ALen.cons ALen.one))
def t_many_read_e (K : PySem.W.Frag) (P : Program) (w : World) (mg : Str → Option Value) (base : Heap) : TS :=
    (tSeq (tAsg (tLst tNil) (gName 3))
    (tSeq (tFor (iRng2 (tCons (tVar 1) (tCons (tCB (rLenL K) (tCons (tVar 0) tNil)) tNil))) (gName 4)
    (tSeq (tAsg (tCallF P w K mg base 5 2 (tCons (tOp (rIxL K) (tVar 0) (tVar 4)) tNil)) (gName 5))
    (tSeq (tIfS (tTest (tOp rIsN (tVar 5) (tC .non))) tNever tNext)
    (tDrop (tBM K "list" rAppend (tVar 3) (tCons (tVar 5) tNil))))))
    (tRet (tVar 3))))
theorem sx_many_read_e {K : PySem.W.Frag} {P : Program} {w : World} {mg : Str → Option Value} {base : Heap} : SX ⟨K, E0, cx0⟩ (R_many_read_e P w mg base) (fs (oL (rz (oL rI)))) (t_many_read_e K P w mg base) M_many_read_e :=
    (s_seq (s_setO a_many_read_e_3 (x_lst (x_lnil (r := (rz (oL rI))))))
    (s_seqC (s_kill (Kl.and (Kl.fr a_many_read_e_4) (Kl.fr a_many_read_e_5)) (s_for (vs := [4]) (x_rng2 (x_acons Cv.id (x_var a_many_read_e_1) (x_aone (x_is Cv.id (x_tCB v_lenL (x_aone (x_varL (Late.bo a_many_read_e_0)))))))) (n_name a_many_read_e_4 (by decide))
    (s_kill (Kl.and (Kl.fr a_many_read_e_4) (Kl.fr a_many_read_e_5)) (s_seq (s_set a_many_read_e_5 (x_callP a_many_read_e_2 (x_aone (x_is Cv.id (x_tOpL v_ixL (Late.bo a_many_read_e_0) (x_is Cv.id (x_var a_many_read_e_4)))))))
    (s_seq (s_if (x_test (x_tOp v_isN Cv.id (x_var a_many_read_e_5) (x_is Cv.id (x_c fun _ => rfl)))) s_never s_next)
    (s_drop (x_bm v_app ty_L nt_L ownN_q a_many_read_e_3 (x_gone (x_unw (x_var a_many_read_e_5))))))))))
    (s_ret (x_move a_many_read_e_3))))
theorem rd_many_read_e {K : PySem.W.Frag} {P : Program} {w : World} {mg : Str → Option Value} {base : Heap} {H : Hp} {vs : List V} {Q : VK} {E : XK} {N : List Str} (h : sp_many_read_e K P w mg base vs H Q E) (hN : N.length = 6 := by rfl) : t_many_read_e K P w mg base { nx := fun _ H' => Q .non H', rt := Q } (start N vs) H := by
  have h : spD K cx0 (aCons (rd (oL rS)) (aCons (ir rI) (aOne (ir (rFn P w mg base 5 (aOne (ir rS)) (fz (rO (rz (oL rI))))))))) (fs (oL (rz (oL rI)))) (fun (a : (List Str) × Int × (Str → Rs Unit (Option (List Int)))) => (M_many_read_e (some a.1, some a.2.1, some a.2.2, none, none, none, ())).run none) vs H Q E := h
  refine d_D (dn := none) (ra := (aCons (rd (oL rS)) (aCons (ir rI) (aOne (ir (rFn P w mg base 5 (aOne (ir rS)) (fz (rO (rz (oL rI)))))))))) (e0 := fun (a : (List Str) × Int × (Str → Rs Unit (Option (List Int)))) => (some a.1, some a.2.1, some a.2.2, none, none, none, ())) (sx_many_read_e) ?_ ?_ h
  · intro G H vs a s hr
    obtain ⟨v0, _, rfl, h0, ⟨v1, _, rfl, h1, ⟨v2, rfl, h2⟩⟩⟩ := hr
    rw [show start N [v0, v1, v2] = [some v0, some v1, some v2, none, none, none] by simp [L2.start, hN]]
    exact (e_bo h0 bo_D (e_fr h1 (e_fr h2 (e_owN (e_frN (e_frN e_nil))))))
  · intro b h; cases h
abbrev E_many_read_s : Type := Option (List Str) × Option Int × Option (Str → Rs Unit (Option ((List Int) × Th))) × Option (List ((List Int) × Th)) × Option Int × Option (Option ((List Int) × Th)) × Unit
def R_many_read_s (P : Program) (w : World) (mg : Str → Option Value) (base : Heap) : ERep E_many_read_s := (eBo (oL rS) (eFr rI (eFr (rFn P w mg base 5 (aOne (ir rS)) (fz (rO (rz (oT2 (rz (oT rI)) rTh))))) (eOw (oL (rz (oT2 (rz (oT rI)) rTh))) (eFr rI (eFr (rO (rz (oT2 (rz (oT rI)) rTh))) eNil))))))
abbrev l_many_read_s_0 : Ln E_many_read_s (List Str) := Ln.z
theorem a_many_read_s_0 {P : Program} {w : World} {mg : Str → Option Value} {base : Heap} : BoAt (R_many_read_s P w mg base) 0 (oL rS) l_many_read_s_0 := BoAt.z
abbrev l_many_read_s_1 : Ln E_many_read_s Int := (Ln.s Ln.z)
theorem a_many_read_s_1 {P : Program} {w : World} {mg : Str → Option Value} {base : Heap} : FrAt (R_many_read_s P w mg base) 1 rI l_many_read_s_1 := (FrAt.sB FrAt.z)
abbrev l_many_read_s_2 : Ln E_many_read_s (Str → Rs Unit (Option ((List Int) × Th))) := (Ln.s (Ln.s Ln.z))
theorem a_many_read_s_2 {P : Program} {w : World} {mg : Str → Option Value} {base : Heap} : FrAt (R_many_read_s P w mg base) 2 (rFn P w mg base 5 (aOne (ir rS)) (fz (rO (rz (oT2 (rz (oT rI)) rTh))))) l_many_read_s_2 := (FrAt.sB (FrAt.sF FrAt.z))
abbrev l_many_read_s_3 : Ln E_many_read_s (List ((List Int) × Th)) := (Ln.s (Ln.s (Ln.s Ln.z)))
theorem a_many_read_s_3 {P : Program} {w : World} {mg : Str → Option Value} {base : Heap} : OwAt (R_many_read_s P w mg base) 3 ownN (oL (rz (oT2 (rz (oT rI)) rTh))) l_many_read_s_3 := (OwAt.sB (OwAt.sF (OwAt.sF OwAt.z)))
abbrev l_many_read_s_4 : Ln E_many_read_s Int := (Ln.s (Ln.s (Ln.s (Ln.s Ln.z))))
theorem a_many_read_s_4 {P : Program} {w : World} {mg : Str → Option Value} {base : Heap} : FrAt (R_many_read_s P w mg base) 4 rI l_many_read_s_4 := (FrAt.sB (FrAt.sF (FrAt.sF (FrAt.sO FrAt.z))))
abbrev l_many_read_s_5 : Ln E_many_read_s (Option ((List Int) × Th)) := (Ln.s (Ln.s (Ln.s (Ln.s (Ln.s Ln.z)))))
theorem a_many_read_s_5 {P : Program} {w : World} {mg : Str → Option Value} {base : Heap} : FrAt (R_many_read_s P w mg base) 5 (rO (rz (oT2 (rz (oT rI)) rTh))) l_many_read_s_5 := (FrAt.sB (FrAt.sF (FrAt.sF (FrAt.sO (FrAt.sF FrAt.z)))))
def M_many_read_s : E_many_read_s → So E_many_read_s (List ((List Int) × Th)) :=
    (mSeq (mSet l_many_read_s_3 (mUn szOk (mC ([] : List ((List Int) × Th)))))
    (mCut (mKill (fun e => (Ln.put l_many_read_s_4 none (Ln.put l_many_read_s_5 none e))) (mFor (mRng2 (mPair (mVar l_many_read_s_1) (mUn gLen (mVar l_many_read_s_0)))) (pN l_many_read_s_4)
    (mKill (fun e => (Ln.put l_many_read_s_4 none (Ln.put l_many_read_s_5 none e))) (mSeq (mSet l_many_read_s_5 (mCallX (mVar l_many_read_s_2) (mOpL gIx l_many_read_s_0 (mVar l_many_read_s_4))))
    (mSeq (mIfS (mOp gIsN (mVar l_many_read_s_5) (mC ())) mNever mNext)
    (mDrop (mBM l_many_read_s_3 gApp (mUnw (mVar l_many_read_s_5)))))))))
    (mRet (mMove l_many_read_s_3))))
def m_many_read_s (x0 : (List Str)) (x1 : Int) (x2 : (Str → Rs Unit (Option ((List Int) × Th)))) : Rs Unit (List ((List Int) × Th)) := (M_many_read_s (some x0, some x1, some x2, none, none, none, ())).run none
abbrev u_many_read_s (p : (List Str) × Int × (Str → Rs Unit (Option ((List Int) × Th)))) : Rs Unit (List ((List Int) × Th)) := m_many_read_s (p.1) (p.2.1) (p.2.2)
def sp_many_read_s (K : PySem.W.Frag) (P : Program) (w : World) (mg : Str → Option Value) (base : Heap) : Sp := spD K cx0 (aCons (rd (oL rS)) (aCons (ir rI) (aOne (ir (rFn P w mg base 5 (aOne (ir rS)) (fz (rO (rz (oT2 (rz (oT rI)) rTh))))))))) (fs (oL (rz (oT2 (rz (oT rI)) rTh)))) u_many_read_s
theorem len_many_read_s (K : PySem.W.Frag) (P : Program) (w : World) (mg : Str → Option Value) (base : Heap) : ∀ vs H Q E, sp_many_read_s K P w mg base vs H Q E → vs.length = 3 := len_D (ALen.cons (ALen.cons ALen.one))
def t_many_read_s (K : PySem.W.Frag) (P : Program) (w : World) (mg : Str → Option Value) (base : Heap) : TS :=
    (tSeq (tAsg (tLst tNil) (gName 3))
    (tSeq (tFor (iRng2 (tCons (tVar 1) (tCons (tCB (rLenL K) (tCons (tVar 0) tNil)) tNil))) (gName 4)
    (tSeq (tAsg (tCallF P w K mg base 5 2 (tCons (tOp (rIxL K) (tVar 0) (tVar 4)) tNil)) (gName 5))
    (tSeq (tIfS (tTest (tOp rIsN (tVar 5) (tC .non))) tNever tNext)
    (tDrop (tBM K "list" rAppend (tVar 3) (tCons (tVar 5) tNil))))))
    (tRet (tVar 3))))
theorem sx_many_read_s {K : PySem.W.Frag} {P : Program} {w : World} {mg : Str → Option Value} {base : Heap} : SX ⟨K, E0, cx0⟩ (R_many_read_s P w mg base) (fs (oL (rz (oT2 (rz (oT rI)) rTh)))) (t_many_read_s K P w mg base) M_many_read_s :=
    (s_seq (s_setO a_many_read_s_3 (x_lst (x_lnil (r := (rz (oT2 (rz (oT rI)) rTh))))))
    (s_seqC (s_kill (Kl.and (Kl.fr a_many_read_s_4) (Kl.fr a_many_read_s_5)) (s_for (vs := [4]) (x_rng2 (x_acons Cv.id (x_var a_many_read_s_1) (x_aone (x_is Cv.id (x_tCB v_lenL (x_aone (x_varL (Late.bo a_many_read_s_0)))))))) (n_name a_many_read_s_4 (by decide))
    (s_kill (Kl.and (Kl.fr a_many_read_s_4) (Kl.fr a_many_read_s_5)) (s_seq (s_set a_many_read_s_5 (x_callP a_many_read_s_2 (x_aone (x_is Cv.id (x_tOpL v_ixL (Late.bo a_many_read_s_0) (x_is Cv.id (x_var a_many_read_s_4)))))))
    (s_seq (s_if (x_test (x_tOp v_isN Cv.id (x_var a_many_read_s_5) (x_is Cv.id (x_c fun _ => rfl)))) s_never s_next)
    (s_drop (x_bm v_app ty_L nt_L ownN_q a_many_read_s_3 (x_gone (x_unw (x_var a_many_read_s_5))))))))))
    (s_ret (x_move a_many_read_s_3))))
theorem rd_many_read_s {K : PySem.W.Frag} {P : Program} {w : World} {mg : Str → Option Value} {base : Heap} {H : Hp} {vs : List V} {Q : VK} {E : XK} {N : List Str} (h : sp_many_read_s K P w mg base vs H Q E) (hN : N.length = 6 := by rfl) : t_many_read_s K P w mg base { nx := fun _ H' => Q .non H', rt := Q } (start N vs) H := by
  have h : spD K cx0 (aCons (rd (oL rS)) (aCons (ir rI) (aOne (ir (rFn P w mg base 5 (aOne (ir rS)) (fz (rO (rz (oT2 (rz (oT rI)) rTh))))))))) (fs (oL (rz (oT2 (rz (oT rI)) rTh)))) (fun (a : (List Str) × Int × (Str → Rs Unit (Option ((List Int) × Th)))) => (M_many_read_s (some a.1, some a.2.1, some a.2.2, none, none, none, ())).run none) vs H Q E := h
  refine d_D (dn := none) (ra := (aCons (rd (oL rS)) (aCons (ir rI) (aOne (ir (rFn P w mg base 5 (aOne (ir rS)) (fz (rO (rz (oT2 (rz (oT rI)) rTh)))))))))) (e0 := fun (a : (List Str) × Int × (Str → Rs Unit (Option ((List Int) × Th)))) => (some a.1, some a.2.1, some a.2.2, none, none, none, ())) (sx_many_read_s) ?_ ?_ h
  · intro G H vs a s hr
    obtain ⟨v0, _, rfl, h0, ⟨v1, _, rfl, h1, ⟨v2, rfl, h2⟩⟩⟩ := hr
    rw [show start N [v0, v1, v2] = [some v0, some v1, some v2, none, none, none] by simp [L2.start, hN]]
    exact (e_bo h0 bo_D (e_fr h1 (e_fr h2 (e_owN (e_frN (e_frN e_nil))))))
  · intro b h; cases h
abbrev E_lone_read : Type := Option (List Str) × Option Int × Option (List Str) × Option Th × Unit
def R_lone_read : ERep E_lone_read := (eBo (oL rS) (eFr rI (eFr (rz (oL rS)) (eFr rTh eNil))))
abbrev l_lone_read_0 : Ln E_lone_read (List Str) := Ln.z
theorem a_lone_read_0 : BoAt R_lone_read 0 (oL rS) l_lone_read_0 := BoAt.z
abbrev l_lone_read_1 : Ln E_lone_read Int := (Ln.s Ln.z)
theorem a_lone_read_1 : FrAt R_lone_read 1 rI l_lone_read_1 := (FrAt.sB FrAt.z)
abbrev l_lone_read_2 : Ln E_lone_read (List Str) := (Ln.s (Ln.s Ln.z))
theorem a_lone_read_2 : FrAt R_lone_read 2 (rz (oL rS)) l_lone_read_2 := (FrAt.sB (FrAt.sF FrAt.z))
abbrev l_lone_read_3 : Ln E_lone_read Th := (Ln.s (Ln.s (Ln.s Ln.z)))
theorem a_lone_read_3 : FrAt R_lone_read 3 rTh l_lone_read_3 := (FrAt.sB (FrAt.sF (FrAt.sF FrAt.z)))
def M_lone_read : E_lone_read → So E_lone_read Th :=
    (mSeq (mSet l_lone_read_2 (mOp gSplit (mOpL gIx l_lone_read_0 (mVar l_lone_read_1)) (mC (" " : Str))))
    (mSeq (mSet l_lone_read_3 (mUn (toTh (fun _ => Th.non)) (mC ())))
    (mCut (mIfS (mOp gEq (mOp gIx (mVar l_lone_read_2) (mC (0 : Int))) (mC ("apart" : Str))) (mSet l_lone_read_3 (mUn (toTh (oTh (fun xs => Th.lst (List.map Th.int xs)))) (mUn gOrN (mCall (fun p => m_some_in p) (mSl gCut (mVar l_lone_read_2) (mPart (mC (1 : Int))) (mC none)))))) (mIfS (mOp gEq (mUn gLen (mVar l_lone_read_2)) (mC (2 : Int))) (mSet l_lone_read_3 (mUn (toTh (oTh Th.int)) (mCall (fun p => m_place_in p) (mOp gIx (mVar l_lone_read_2) (mC (1 : Int)))))) mNext))
    (mSeq (mIfS (mOp gIsNTh (mVar l_lone_read_3) (mC ())) mNever mNext)
    (mSeq (mIfS (mOp gLt (mOp gAdd (mVar l_lone_read_1) (mC (1 : Int))) (mUn gLen (mVar l_lone_read_0))) mNever mNext)
    (mRet (mUn (toTh (fun xs => Th.tup (List.map (fun t => t) xs))) (mUn szOk (mCons (mUn (toTh Th.str) (mOp gIx (mVar l_lone_read_2) (mC (0 : Int)))) (mCons (mVar l_lone_read_3) (mC [])))))))))))
def m_lone_read (x0 : (List Str)) (x1 : Int) : Rs Unit Th := (M_lone_read (some x0, some x1, none, none, ())).run none
abbrev u_lone_read (p : (List Str) × Int) : Rs Unit Th := m_lone_read (p.1) (p.2)
def sp_lone_read (K : PySem.W.Frag) : Sp := spD K cx0 (aCons (rd (oL rS)) (aOne (ir rI))) (fz rTh) u_lone_read
theorem len_lone_read (K : PySem.W.Frag) : ∀ vs H Q E, sp_lone_read K vs H Q E → vs.length = 2 := len_D (ALen.cons ALen.one)
def t_lone_read (K : PySem.W.Frag) : TS :=
    (tSeq (tAsg (tM1 rSplit (tOp (rIxL K) (tVar 0) (tVar 1)) (tC (.str " "))) (gName 2))
    (tSeq (tAsg (tC .non) (gName 3))
    (tCut (tIfS (tTest (tOp rEq (tOp (rIxL K) (tVar 2) (tC (.int 0))) (tC (.str "apart")))) (tAsg (tOrN K (tCall (sp_some_in K) [] E0 (tCons (tSl (rSlL K) (tVar 2) (tPart (tC (.int 1))) tNoPart) tNil)) (tC .non)) (gName 3)) (tIfS (tTest (tOp rEq (tCB (rLenL K) (tCons (tVar 2) tNil)) (tC (.int 2)))) (tAsg (tCall (sp_place_in K) [] E0 (tCons (tOp (rIxL K) (tVar 2) (tC (.int 1))) tNil)) (gName 3)) tNext))
    (tSeq (tIfS (tTest (tOp rIsN (tVar 3) (tC .non))) tNever tNext)
    (tSeq (tIfS (tTest (tOp rLt (tOp rAdd (tVar 1) (tC (.int 1))) (tCB (rLenL K) (tCons (tVar 0) tNil)))) tNever tNext)
    (tRet (tTup (tCons (tOp (rIxL K) (tVar 2) (tC (.int 0))) (tCons (tVar 3) tNil)))))))))
theorem sx_lone_read {K : PySem.W.Frag} : SX ⟨K, E0, cx0⟩ R_lone_read (fz rTh) (t_lone_read K) M_lone_read :=
    (s_seq (s_set a_lone_read_2 (x_fz (x_split (x_tOpL v_ixL (Late.bo a_lone_read_0) (x_is Cv.id (x_var a_lone_read_1))) (x_c fun _ => rfl))))
    (s_seq (s_set a_lone_read_3 (x_cast ci_N (x_c fun _ => rfl)))
    (s_cutC (s_if (x_test (x_tOp v_eqS Cv.id (x_tOp v_ixL Cv.ob (x_var a_lone_read_2) (x_is Cv.id (x_c fun _ => rfl))) (x_is Cv.id (x_c fun _ => rfl)))) (s_set a_lone_read_3 (x_cast (ci_Oo (ci_L ci_I)) (x_orN (x_call (x_aone (x_is Cv.ob (x_fz (x_slF v_slL Cv.ob (x_var a_lone_read_2) (x_part (x_c fun _ => rfl)) x_noPart)))))))) (s_if (x_test (x_tOp v_eqI Cv.id (x_tCB v_lenL (x_aone (x_is Cv.ob (x_var a_lone_read_2)))) (x_is Cv.id (x_c fun _ => rfl)))) (s_set a_lone_read_3 (x_cast (ci_Oo ci_I) (x_call (x_aone (x_is Cv.id (x_tOp v_ixL Cv.ob (x_var a_lone_read_2) (x_is Cv.id (x_c fun _ => rfl)))))))) s_next))
    (s_seq (s_if (x_test (x_tOp v_isNTh Cv.id (x_var a_lone_read_3) (x_is Cv.id (x_c fun _ => rfl)))) s_never s_next)
    (s_seq (s_if (x_test (x_tOp v_lt Cv.id (x_tOp v_add Cv.id (x_var a_lone_read_1) (x_is Cv.id (x_c fun _ => rfl))) (x_is Cv.id (x_tCB v_lenL (x_aone (x_varL (Late.bo a_lone_read_0))))))) s_never s_next)
    (s_ret (x_cast (ci_T ci_id) (x_tup (x_lcons (x_cast ci_S (x_tOp v_ixL Cv.ob (x_var a_lone_read_2) (x_is Cv.id (x_c fun _ => rfl)))) (x_lcons (x_var a_lone_read_3) x_lnil))))))))))
theorem rd_lone_read {K : PySem.W.Frag} {H : Hp} {vs : List V} {Q : VK} {E : XK} {N : List Str} (h : sp_lone_read K vs H Q E) (hN : N.length = 4 := by rfl) : t_lone_read K { nx := fun _ H' => Q .non H', rt := Q } (start N vs) H := by
  have h : spD K cx0 (aCons (rd (oL rS)) (aOne (ir rI))) (fz rTh) (fun (a : (List Str) × Int) => (M_lone_read (some a.1, some a.2, none, none, ())).run none) vs H Q E := h
  refine d_D (dn := none) (ra := (aCons (rd (oL rS)) (aOne (ir rI)))) (e0 := fun (a : (List Str) × Int) => (some a.1, some a.2, none, none, ())) (sx_lone_read) ?_ ?_ h
  · intro G H vs a s hr
    obtain ⟨v0, _, rfl, h0, ⟨v1, rfl, h1⟩⟩ := hr
    rw [show start N [v0, v1] = [some v0, some v1, none, none] by simp [L2.start, hN]]
    exact (e_bo h0 bo_D (e_fr h1 (e_frN (e_frN e_nil))))
  · intro b h; cases h
abbrev E_inner_read : Type := Option (List Str) × Option Int × Option Str × Unit
def R_inner_read : ERep E_inner_read := (eBo (oL rS) (eFr rI (eFr rS eNil)))
abbrev l_inner_read_0 : Ln E_inner_read (List Str) := Ln.z
theorem a_inner_read_0 : BoAt R_inner_read 0 (oL rS) l_inner_read_0 := BoAt.z
abbrev l_inner_read_1 : Ln E_inner_read Int := (Ln.s Ln.z)
theorem a_inner_read_1 : FrAt R_inner_read 1 rI l_inner_read_1 := (FrAt.sB FrAt.z)
abbrev l_inner_read_2 : Ln E_inner_read Str := (Ln.s (Ln.s Ln.z))
theorem a_inner_read_2 : FrAt R_inner_read 2 rS l_inner_read_2 := (FrAt.sB (FrAt.sF FrAt.z))
def M_inner_read : E_inner_read → So E_inner_read Th :=
    (mSeq (mIfS (mOp gEq (mVar l_inner_read_1) (mUn gLen (mVar l_inner_read_0))) mNever mNext)
    (mSeq (mSet l_inner_read_2 (mCall (fun p => m_word_of p) (mOpL gIx l_inner_read_0 (mVar l_inner_read_1))))
    (mSeq (mIfS (mOp gIn (mVar l_inner_read_2) (mUn szOk (mCons (mC ("apart" : Str)) (mCons (mC ("counts" : Str)) (mCons (mC ("unlike" : Str)) (mC [])))))) (mRet (mCall (fun p => m_lone_read (p.1) (p.2)) (mPairL l_inner_read_0 (mVar l_inner_read_1)))) mNext)
    (mSeq (mIfS (mOp gEq (mVar l_inner_read_2) (mC ("even" : Str))) (mRet (mUn (toTh (fun xs => Th.tup (List.map (fun t => t) xs))) (mUn szOk (mCons (mUn (toTh Th.str) (mC ("evens" : Str))) (mCons (mUn (toTh (fun xs => Th.lst (List.map (fun xs => Th.lst (List.map Th.int xs)) xs))) (mCall (fun p => m_many_read_e (p.1) (p.2.1) (p.2.2)) (mPairL l_inner_read_0 (mPair (mVar l_inner_read_1) (mC u_even_in))))) (mC [])))))) mNext)
    (mRet (mUn (toTh (fun xs => Th.tup (List.map (fun t => t) xs))) (mUn szOk (mCons (mUn (toTh Th.str) (mC ("sets" : Str))) (mCons (mUn (toTh (fun xs => Th.lst (List.map (fun p => Th.tup [(fun xs => Th.tup (List.map Th.int xs)) p.1, (fun t => t) p.2]) xs))) (mCall (fun p => m_many_read_s (p.1) (p.2.1) (p.2.2)) (mPairL l_inner_read_0 (mPair (mVar l_inner_read_1) (mC u_set_in))))) (mC []))))))))))
def m_inner_read (x0 : (List Str)) (x1 : Int) : Rs Unit Th := (M_inner_read (some x0, some x1, none, ())).run none
abbrev u_inner_read (p : (List Str) × Int) : Rs Unit Th := m_inner_read (p.1) (p.2)
def sp_inner_read (K : PySem.W.Frag) : Sp := spD K cx0 (aCons (rd (oL rS)) (aOne (ir rI))) (fz rTh) u_inner_read
theorem len_inner_read (K : PySem.W.Frag) : ∀ vs H Q E, sp_inner_read K vs H Q E → vs.length = 2 := len_D (ALen.cons ALen.one)
def t_inner_read (K : PySem.W.Frag) (P : Program) (w : World) (mg : Str → Option Value) (base : Heap) (f_even_in : Addr) (f_set_in : Addr) : TS :=
    (tSeq (tIfS (tTest (tOp rEq (tVar 1) (tCB (rLenL K) (tCons (tVar 0) tNil)))) tNever tNext)
    (tSeq (tAsg (tCall (sp_word_of K) [] E0 (tCons (tOp (rIxL K) (tVar 0) (tVar 1)) tNil)) (gName 2))
    (tSeq (tIfS (tTest (tOp (rIn K false) (tVar 2) (tTup (tCons (tC (.str "apart")) (tCons (tC (.str "counts")) (tCons (tC (.str "unlike")) tNil)))))) (tRet (tCall (sp_lone_read K) [] E0 (tCons (tVar 0) (tCons (tVar 1) tNil)))) tNext)
    (tSeq (tIfS (tTest (tOp rEq (tVar 2) (tC (.str "even")))) (tRet (tTup (tCons (tC (.str "evens")) (tCons (tCall (sp_many_read_e K P w mg base) [] E0 (tCons (tVar 0) (tCons (tVar 1) (tCons (tC (.ref f_even_in)) tNil)))) tNil)))) tNext)
    (tRet (tTup (tCons (tC (.str "sets")) (tCons (tCall (sp_many_read_s K P w mg base) [] E0 (tCons (tVar 0) (tCons (tVar 1) (tCons (tC (.ref f_set_in)) tNil)))) tNil))))))))
theorem sx_inner_read {K : PySem.W.Frag} {P : Program} {w : World} {mg : Str → Option Value} {base : Heap} {f_even_in : Addr} {f_set_in : Addr} (hh_even_in : Held P w K mg base 4 f_even_in (sp_even_in K)) (hh_set_in : Held P w K mg base 5 f_set_in (sp_set_in K)) : SX ⟨K, E0, cx0⟩ R_inner_read (fz rTh) (t_inner_read K P w mg base f_even_in f_set_in) M_inner_read :=
    (s_seq (s_if (x_test (x_tOp v_eqI Cv.id (x_var a_inner_read_1) (x_is Cv.id (x_tCB v_lenL (x_aone (x_varL (Late.bo a_inner_read_0))))))) s_never s_next)
    (s_seq (s_set a_inner_read_2 (x_call (x_aone (x_is Cv.id (x_tOpL v_ixL (Late.bo a_inner_read_0) (x_is Cv.id (x_var a_inner_read_1)))))))
    (s_seq (s_if (x_test (x_tOp v_inTS Cv.id (x_var a_inner_read_2) (x_is Cv.ob (x_tup (x_lcons (x_c fun _ => rfl) (x_lcons (x_c fun _ => rfl) (x_lcons (x_c fun _ => rfl) x_lnil))))))) (s_ret (x_call (x_aconsL (Late.bo a_inner_read_0) (x_aone (x_is Cv.id (x_var a_inner_read_1)))))) s_next)
    (s_seq (s_if (x_test (x_tOp v_eqS Cv.id (x_var a_inner_read_2) (x_is Cv.id (x_c fun _ => rfl)))) (s_ret (x_cast (ci_T ci_id) (x_tup (x_lcons (x_cast ci_S (x_c fun _ => rfl)) (x_lcons (x_cast (ci_L (ci_L ci_I)) (x_fz (x_callF (x_aconsL (Late.bo a_inner_read_0) (x_acons Cv.id (x_var a_inner_read_1) (x_aone (x_is Cv.id (x_fn (Held.up hh_even_in (by decide : 4 ≤ 5)))))))))) x_lnil))))) s_next)
    (s_ret (x_cast (ci_T ci_id) (x_tup (x_lcons (x_cast ci_S (x_c fun _ => rfl)) (x_lcons (x_cast (ci_L (ci_T2 (ci_T ci_I) ci_id)) (x_fz (x_callF (x_aconsL (Late.bo a_inner_read_0) (x_acons Cv.id (x_var a_inner_read_1) (x_aone (x_is Cv.id (x_fn (Held.up hh_set_in (by decide : 5 ≤ 5)))))))))) x_lnil)))))))))
theorem rd_inner_read {K : PySem.W.Frag} {P : Program} {w : World} {mg : Str → Option Value} {base : Heap} {f_even_in : Addr} {f_set_in : Addr} (hh_even_in : Held P w K mg base 4 f_even_in (sp_even_in K)) (hh_set_in : Held P w K mg base 5 f_set_in (sp_set_in K)) {H : Hp} {vs : List V} {Q : VK} {E : XK} {N : List Str} (h : sp_inner_read K vs H Q E) (hN : N.length = 3 := by rfl) : t_inner_read K P w mg base f_even_in f_set_in { nx := fun _ H' => Q .non H', rt := Q } (start N vs) H := by
  have h : spD K cx0 (aCons (rd (oL rS)) (aOne (ir rI))) (fz rTh) (fun (a : (List Str) × Int) => (M_inner_read (some a.1, some a.2, none, ())).run none) vs H Q E := h
  refine d_D (dn := none) (ra := (aCons (rd (oL rS)) (aOne (ir rI)))) (e0 := fun (a : (List Str) × Int) => (some a.1, some a.2, none, ())) (sx_inner_read hh_even_in hh_set_in) ?_ ?_ h
  · intro G H vs a s hr
    obtain ⟨v0, _, rfl, h0, ⟨v1, rfl, h1⟩⟩ := hr
    rw [show start N [v0, v1] = [some v0, some v1, none] by simp [L2.start, hN]]
    exact (e_bo h0 bo_D (e_fr h1 (e_frN e_nil)))
  · intro b h; cases h
abbrev E_read_bar : Type := Option Str × Option (List Str) × Option (List (List Int)) × Option (Option (List Int)) × Option Th × Unit
def R_read_bar : ERep E_read_bar := (eFr rS (eFr (rz (oL rS)) (eOw (oL (rz (oT rI))) (eFr (rO (rz (oT rI))) (eFr rTh eNil)))))
abbrev l_read_bar_0 : Ln E_read_bar Str := Ln.z
theorem a_read_bar_0 : FrAt R_read_bar 0 rS l_read_bar_0 := FrAt.z
abbrev l_read_bar_1 : Ln E_read_bar (List Str) := (Ln.s Ln.z)
theorem a_read_bar_1 : FrAt R_read_bar 1 (rz (oL rS)) l_read_bar_1 := (FrAt.sF FrAt.z)
abbrev l_read_bar_2 : Ln E_read_bar (List (List Int)) := (Ln.s (Ln.s Ln.z))
theorem a_read_bar_2 : OwAt R_read_bar 2 ownN (oL (rz (oT rI))) l_read_bar_2 := (OwAt.sF (OwAt.sF OwAt.z))
abbrev l_read_bar_3 : Ln E_read_bar (Option (List Int)) := (Ln.s (Ln.s (Ln.s Ln.z)))
theorem a_read_bar_3 : FrAt R_read_bar 3 (rO (rz (oT rI))) l_read_bar_3 := (FrAt.sF (FrAt.sF (FrAt.sO FrAt.z)))
abbrev l_read_bar_4 : Ln E_read_bar Th := (Ln.s (Ln.s (Ln.s (Ln.s Ln.z))))
theorem a_read_bar_4 : FrAt R_read_bar 4 rTh l_read_bar_4 := (FrAt.sF (FrAt.sF (FrAt.sO (FrAt.sF FrAt.z))))
def M_read_bar : E_read_bar → So E_read_bar Th :=
    (mSeq (mSet l_read_bar_1 (mCall (fun p => m_lines_of p) (mVar l_read_bar_0)))
    (mSeq (mSet l_read_bar_2 (mUn szOk (mC ([] : List (List Int)))))
    (mCut (mKill (fun e => (Ln.put l_read_bar_3 none e)) (mWhileN (mAnd (mOp gLt (mUn gLen (mVar l_read_bar_2)) (mUn gLen (mVar l_read_bar_1))) (mOp gEq (mCall (fun p => m_word_of p) (mOp gIx (mVar l_read_bar_1) (mUn gLen (mVar l_read_bar_2)))) (mC ("link" : Str)))) (mKill (fun e => (Ln.put l_read_bar_3 none e)) (mSeq (mSet l_read_bar_3 (mCall (fun p => m_face_in p) (mSl gCut (mOp gSplit (mOp gIx (mVar l_read_bar_1) (mUn gLen (mVar l_read_bar_2))) (mC (" " : Str))) (mPart (mC (1 : Int))) (mC none))))
    (mSeq (mIfB (mOr (mNot (mUn gTrO (mVar l_read_bar_3))) (mOp gEq (mUn gLen (mVar l_read_bar_2)) (mC (5 : Int)))) mNever mNext)
    (mDrop (mBM l_read_bar_2 gApp (mUnw (mVar l_read_bar_3))))))) 1000000000))
    (mSeq (mSet l_read_bar_4 (mCall (fun p => m_inner_read (p.1) (p.2)) (mPair (mVar l_read_bar_1) (mUn gLen (mVar l_read_bar_2)))))
    (mCut (mKill (fun e => (Ln.put l_read_bar_3 none e)) (mFor (mUn gRev (mVar l_read_bar_2)) (fun a => pN l_read_bar_3 (some a))
    (mKill (fun e => (Ln.put l_read_bar_3 none e)) (mSet l_read_bar_4 (mUn (toTh (fun xs => Th.tup (List.map (fun t => t) xs))) (mUn szOk (mCons (mUn (toTh Th.str) (mC ("link" : Str))) (mCons (mUn (toTh (oTh (fun xs => Th.tup (List.map Th.int xs)))) (mVar l_read_bar_3)) (mCons (mVar l_read_bar_4) (mC []))))))))))
    (mRet (mVar l_read_bar_4)))))))
def m_read_bar (x0 : Str) : Rs Unit Th := (M_read_bar (some x0, none, none, none, none, ())).run none
abbrev u_read_bar (p : Str) : Rs Unit Th := m_read_bar p
def sp_read_bar (K : PySem.W.Frag) : Sp := spD K cx0 (aOne (ir rS)) (fz rTh) u_read_bar
theorem len_read_bar (K : PySem.W.Frag) : ∀ vs H Q E, sp_read_bar K vs H Q E → vs.length = 1 := len_D ALen.one
def t_read_bar (K : PySem.W.Frag) : TS :=
    (tSeq (tAsg (tCall (sp_lines_of K) [] E0 (tCons (tVar 0) tNil)) (gName 1))
    (tSeq (tAsg (tLst tNil) (gName 2))
    (tSeq (tWhile (tAnd (tTest (tOp rLt (tCB (rLenL K) (tCons (tVar 2) tNil)) (tCB (rLenL K) (tCons (tVar 1) tNil)))) (tTest (tOp rEq (tCall (sp_word_of K) [] E0 (tCons (tOp (rIxL K) (tVar 1) (tCB (rLenL K) (tCons (tVar 2) tNil))) tNil)) (tC (.str "link"))))) (tSeq (tAsg (tCall (sp_face_in K) [] E0 (tCons (tSl (rSlL K) (tM1 rSplit (tOp (rIxL K) (tVar 1) (tCB (rLenL K) (tCons (tVar 2) tNil))) (tC (.str " "))) (tPart (tC (.int 1))) tNoPart) tNil)) (gName 3))
    (tSeq (tIfS (tOr (tNot (tTr K (tVar 3))) (tTest (tOp rEq (tCB (rLenL K) (tCons (tVar 2) tNil)) (tC (.int 5))))) tNever tNext)
    (tDrop (tBM K "list" rAppend (tVar 2) (tCons (tVar 3) tNil))))))
    (tSeq (tAsg (tCall (sp_inner_read K) [] E0 (tCons (tVar 1) (tCons (tCB (rLenL K) (tCons (tVar 2) tNil)) tNil))) (gName 4))
    (tSeq (tFor (iList K (tRevL K (tVar 2))) (gName 3)
    (tAsg (tTup (tCons (tC (.str "link")) (tCons (tVar 3) (tCons (tVar 4) tNil)))) (gName 4)))
    (tRet (tVar 4)))))))
theorem sx_read_bar {K : PySem.W.Frag} : SX ⟨K, E0, cx0⟩ R_read_bar (fz rTh) (t_read_bar K) M_read_bar :=
    (s_seq (s_set a_read_bar_1 (x_call (x_aone (x_is Cv.id (x_var a_read_bar_0)))))
    (s_seq (s_setO a_read_bar_2 (x_lst (x_lnil (r := (rz (oT rI))))))
    (s_seqC (s_kill (Kl.fr a_read_bar_3) (s_while 1000000000 (x_and (x_test (x_tOp v_lt Cv.id (x_tCB v_lenL (x_aone (x_varL (Late.ow a_read_bar_2)))) (x_is Cv.id (x_tCB v_lenL (x_aone (x_is Cv.ob (x_var a_read_bar_1))))))) (x_test (x_tOp v_eqS Cv.id (x_call (x_aone (x_is Cv.id (x_tOp v_ixL Cv.ob (x_var a_read_bar_1) (x_is Cv.id (x_tCB v_lenL (x_aone (x_varL (Late.ow a_read_bar_2))))))))) (x_is Cv.id (x_c fun _ => rfl))))) (s_kill (Kl.fr a_read_bar_3) (s_seq (s_set a_read_bar_3 (x_call (x_aone (x_is Cv.ob (x_fz (x_slF v_slL Cv.ob (x_fz (x_split (x_tOp v_ixL Cv.ob (x_var a_read_bar_1) (x_is Cv.id (x_tCB v_lenL (x_aone (x_varL (Late.ow a_read_bar_2)))))) (x_c fun _ => rfl))) (x_part (x_c fun _ => rfl)) x_noPart))))))
    (s_seq (s_ifB (x_or (x_not (x_trT (x_var a_read_bar_3))) (x_test (x_tOp v_eqI Cv.id (x_tCB v_lenL (x_aone (x_varL (Late.ow a_read_bar_2)))) (x_is Cv.id (x_c fun _ => rfl))))) s_never s_next)
    (s_drop (x_bm v_app ty_L nt_L ownN_q a_read_bar_2 (x_gone (x_unw (x_var a_read_bar_3))))))))))
    (s_seq (s_set a_read_bar_4 (x_call (x_acons Cv.ob (x_var a_read_bar_1) (x_aone (x_is Cv.id (x_tCB v_lenL (x_aone (x_varL (Late.ow a_read_bar_2)))))))))
    (s_seqC (s_kill (Kl.fr a_read_bar_3) (s_for (vs := [3]) (x_iL (x_fz (x_revL (x_varL (Late.ow a_read_bar_2))))) (n_nameO nn_z a_read_bar_3 (by decide))
    (s_kill (Kl.fr a_read_bar_3) (s_set a_read_bar_4 (x_cast (ci_T ci_id) (x_tup (x_lcons (x_cast ci_S (x_c fun _ => rfl)) (x_lcons (x_cast (ci_Oo (ci_T ci_I)) (x_var a_read_bar_3)) (x_lcons (x_var a_read_bar_4) x_lnil)))))))))
    (s_ret (x_var a_read_bar_4)))))))
theorem rd_read_bar {K : PySem.W.Frag} {H : Hp} {vs : List V} {Q : VK} {E : XK} {N : List Str} (h : sp_read_bar K vs H Q E) (hN : N.length = 5 := by rfl) : t_read_bar K { nx := fun _ H' => Q .non H', rt := Q } (start N vs) H := by
  have h : spD K cx0 (aOne (ir rS)) (fz rTh) (fun (a : Str) => (M_read_bar (some a, none, none, none, none, ())).run none) vs H Q E := h
  refine d_D (dn := none) (ra := (aOne (ir rS))) (e0 := fun (a : Str) => (some a, none, none, none, none, ())) (sx_read_bar) ?_ ?_ h
  · intro G H vs a s hr
    obtain ⟨v0, rfl, h0⟩ := hr
    rw [show start N [v0] = [some v0, none, none, none, none] by simp [L2.start, hN]]
    exact (e_fr h0 (e_frN (e_owN (e_frN (e_frN e_nil)))))
  · intro b h; cases h
abbrev E_lpen : Type := Option (List Int) × Unit
def R_lpen : ERep E_lpen := (eFr rScr eNil)
abbrev l_lpen_0 : Ln E_lpen (List Int) := Ln.z
theorem a_lpen_0 : FrAt R_lpen 0 rScr l_lpen_0 := FrAt.z
def M_lpen : E_lpen → So E_lpen ((List Int) × Int × Int) :=
    (mRet (mUn some (mPair (mVar l_lpen_0) (mPair (mC (0 : Int)) (mC (0 : Int))))))
def m_lpen (x0 : (List Int)) : Rs Unit ((List Int) × Int × Int) := (M_lpen (some x0, ())).run none
abbrev u_lpen (p : (List Int)) : Rs Unit ((List Int) × Int × Int) := m_lpen p
def sp_lpen (K : PySem.W.Frag) : Sp := spD K cx0 (aOne (ir rScr)) (fs (oL3 rScr rI rI)) u_lpen
theorem len_lpen (K : PySem.W.Frag) : ∀ vs H Q E, sp_lpen K vs H Q E → vs.length = 1 := len_D ALen.one
def t_lpen (K : PySem.W.Frag) : TS :=
    (tRet (tLst (tCons (tVar 0) (tCons (tC (.int 0)) (tCons (tC (.int 0)) tNil)))))
theorem sx_lpen {K : PySem.W.Frag} : SX ⟨K, E0, cx0⟩ R_lpen (fs (oL3 rScr rI rI)) (t_lpen K) M_lpen :=
    (s_ret (x_lst3 (x_p3 (x_var a_lpen_0) (x_c fun _ => rfl) (x_c fun _ => rfl))))
theorem rd_lpen {K : PySem.W.Frag} {H : Hp} {vs : List V} {Q : VK} {E : XK} {N : List Str} (h : sp_lpen K vs H Q E) (hN : N.length = 1 := by rfl) : t_lpen K { nx := fun _ H' => Q .non H', rt := Q } (start N vs) H := by
  have h : spD K cx0 (aOne (ir rScr)) (fs (oL3 rScr rI rI)) (fun (a : (List Int)) => (M_lpen (some a, ())).run none) vs H Q E := h
  refine d_D (dn := none) (ra := (aOne (ir rScr))) (e0 := fun (a : (List Int)) => (some a, ())) (sx_lpen) ?_ ?_ h
  · intro G H vs a s hr
    obtain ⟨v0, rfl, h0⟩ := hr
    rw [show start N [v0] = [some v0] by simp [L2.start, hN]]
    exact (e_fr h0 e_nil)
  · intro b h; cases h
abbrev E_ldraw : Type := Option ((List Int) × Int × Int) × Option Int × Option (List Int) × Option Int × Option Int × Option Int × Option Int × Unit
def R_ldraw : ERep E_ldraw := (eIo 0 (oL3 rScr rI rI) (eFr rI (eFr rScr (eFr rI (eFr rI (eFr rI (eFr rI eNil)))))))
abbrev l_ldraw_0 : Ln E_ldraw ((List Int) × Int × Int) := Ln.z
theorem a_ldraw_0 : OwAt R_ldraw 0 (ownI 0) (oL3 rScr rI rI) l_ldraw_0 := OwAt.z
abbrev l_ldraw_1 : Ln E_ldraw Int := (Ln.s Ln.z)
theorem a_ldraw_1 : FrAt R_ldraw 1 rI l_ldraw_1 := (FrAt.sO FrAt.z)
abbrev l_ldraw_2 : Ln E_ldraw (List Int) := (Ln.s (Ln.s Ln.z))
theorem a_ldraw_2 : FrAt R_ldraw 2 rScr l_ldraw_2 := (FrAt.sO (FrAt.sF FrAt.z))
abbrev l_ldraw_3 : Ln E_ldraw Int := (Ln.s (Ln.s (Ln.s Ln.z)))
theorem a_ldraw_3 : FrAt R_ldraw 3 rI l_ldraw_3 := (FrAt.sO (FrAt.sF (FrAt.sF FrAt.z)))
abbrev l_ldraw_4 : Ln E_ldraw Int := (Ln.s (Ln.s (Ln.s (Ln.s Ln.z))))
theorem a_ldraw_4 : FrAt R_ldraw 4 rI l_ldraw_4 := (FrAt.sO (FrAt.sF (FrAt.sF (FrAt.sF FrAt.z))))
abbrev l_ldraw_5 : Ln E_ldraw Int := (Ln.s (Ln.s (Ln.s (Ln.s (Ln.s Ln.z)))))
theorem a_ldraw_5 : FrAt R_ldraw 5 rI l_ldraw_5 := (FrAt.sO (FrAt.sF (FrAt.sF (FrAt.sF (FrAt.sF FrAt.z)))))
abbrev l_ldraw_6 : Ln E_ldraw Int := (Ln.s (Ln.s (Ln.s (Ln.s (Ln.s (Ln.s Ln.z))))))
theorem a_ldraw_6 : FrAt R_ldraw 6 rI l_ldraw_6 := (FrAt.sO (FrAt.sF (FrAt.sF (FrAt.sF (FrAt.sF (FrAt.sF FrAt.z))))))
def M_ldraw : E_ldraw → So E_ldraw Int :=
    (mSeq (mAsgN (mVar l_ldraw_0) (p3 (pN l_ldraw_2) (pN l_ldraw_3) (pN l_ldraw_4)))
    (mSeq (mIfS (mOp gGt (mVar l_ldraw_4) (mC (0 : Int))) (mSeq (mSetI l_ldraw_0 gSet32 (mC (2 : Int)) (mOp gDiv (mVar l_ldraw_4) (mVar l_ldraw_1)))
    (mRet (mOp gMod (mVar l_ldraw_4) (mVar l_ldraw_1)))) mNext)
    (mSeq (mSetI l_ldraw_0 gSet31 (mC (1 : Int)) (mOp gAdd (mVar l_ldraw_3) (mC (1 : Int))))
    (mSeq (mSet l_ldraw_5 (mOp gAdd (mOp gAdd (mOp gMul (mOp gMul (mC (41 : Int)) (mVar l_ldraw_3)) (mVar l_ldraw_3)) (mOp gMul (mC (7 : Int)) (mVar l_ldraw_3))) (mC (3 : Int))))
    (mCut (mIfS (mOp gGt (mUn gLen (mVar l_ldraw_2)) (mC (0 : Int))) (mSet l_ldraw_5 (mOp gIx (mVar l_ldraw_2) (mOp gMod (mVar l_ldraw_3) (mUn gLen (mVar l_ldraw_2))))) mNext)
    (mSeq (mIfB (mAnd (mOp gLt (mVar l_ldraw_3) (mUn gLen (mVar l_ldraw_2))) (mOp gGe (mUn gAbs (mVar l_ldraw_5)) (mC (1000000000000000000 : Int)))) (mSeq (mSetI l_ldraw_0 gSet32 (mC (2 : Int)) (mOp gDiv (mUn gAbs (mVar l_ldraw_5)) (mVar l_ldraw_1)))
    (mRet (mOp gMod (mUn gAbs (mVar l_ldraw_5)) (mVar l_ldraw_1)))) mNext)
    (mSeq (mSet l_ldraw_6 (mOp gMod (mOp gMul (mOp gAdd (mOp gAdd (mOp gMod (mVar l_ldraw_5) (mC (2147483629 : Int))) (mOp gMul (mC (40507 : Int)) (mVar l_ldraw_3))) (mC (5 : Int))) (mC (48271 : Int))) (mC (2147483647 : Int))))
    (mSeq (mSet l_ldraw_6 (mOp gMod (mOp gAdd (mOp gAdd (mOp gMul (mVar l_ldraw_6) (mVar l_ldraw_6)) (mOp gMul (mC (69621 : Int)) (mVar l_ldraw_3))) (mC (3 : Int))) (mC (2147483587 : Int))))
    (mRet (mOp gMod (mOp gDiv (mOp gMod (mOp gMul (mVar l_ldraw_6) (mOp gAdd (mOp gMod (mVar l_ldraw_6) (mC (65521 : Int))) (mC (7 : Int)))) (mC (2147483629 : Int))) (mC (64 : Int))) (mVar l_ldraw_1)))))))))))
def m_ldraw (x0 : ((List Int) × Int × Int)) (x1 : Int) : Rs ((List Int) × Int × Int) Int := (M_ldraw (some x0, some x1, none, none, none, none, none, ())).runI l_ldraw_0 none
abbrev u_ldraw (s : ((List Int) × Int × Int)) (p : Int) : Rs ((List Int) × Int × Int) Int := m_ldraw s p
def sp_ldraw (K : PySem.W.Frag) : Sp := spI K cx0 (oL3 rScr rI rI) (aOne (ir rI)) (fz rI) u_ldraw
theorem len_ldraw (K : PySem.W.Frag) : ∀ vs H Q E, sp_ldraw K vs H Q E → vs.length = 2 := len_I ALen.one
def t_ldraw (K : PySem.W.Frag) : TS :=
    (tSeq (tAsg (tVar 0) (gUnl K 3 (gCons (gName 2) (gCons (gName 3) (gCons (gName 4) gNil)))))
    (tSeq (tIfS (tTest (tOp rGt (tVar 4) (tC (.int 0)))) (tSeq (tAsg (tOp rDiv (tVar 4) (tVar 1)) (gSub (tVar 0) (tC (.int 2)) rSetL))
    (tRet (tOp rMod (tVar 4) (tVar 1)))) tNext)
    (tSeq (tAsg (tOp rAdd (tVar 3) (tC (.int 1))) (gSub (tVar 0) (tC (.int 1)) rSetL))
    (tSeq (tAsg (tOp rAdd (tOp rAdd (tOp rMul (tOp rMul (tC (.int 41)) (tVar 3)) (tVar 3)) (tOp rMul (tC (.int 7)) (tVar 3))) (tC (.int 3))) (gName 5))
    (tCut (tIfS (tTest (tOp rGt (tCB (rLenL K) (tCons (tVar 2) tNil)) (tC (.int 0)))) (tAsg (tOp (rIxL K) (tVar 2) (tOp rMod (tVar 3) (tCB (rLenL K) (tCons (tVar 2) tNil)))) (gName 5)) tNext)
    (tSeq (tIfS (tAnd (tTest (tOp rLt (tVar 3) (tCB (rLenL K) (tCons (tVar 2) tNil)))) (tTest (tOp rGe (tCB rAbs (tCons (tVar 5) tNil)) (tOp rPow (tC (.int 10)) (tC (.int 18)))))) (tSeq (tAsg (tOp rDiv (tCB rAbs (tCons (tVar 5) tNil)) (tVar 1)) (gSub (tVar 0) (tC (.int 2)) rSetL))
    (tRet (tOp rMod (tCB rAbs (tCons (tVar 5) tNil)) (tVar 1)))) tNext)
    (tSeq (tAsg (tOp rMod (tOp rMul (tOp rAdd (tOp rAdd (tOp rMod (tVar 5) (tC (.int 2147483629))) (tOp rMul (tC (.int 40507)) (tVar 3))) (tC (.int 5))) (tC (.int 48271))) (tC (.int 2147483647))) (gName 6))
    (tSeq (tAsg (tOp rMod (tOp rAdd (tOp rAdd (tOp rMul (tVar 6) (tVar 6)) (tOp rMul (tC (.int 69621)) (tVar 3))) (tC (.int 3))) (tC (.int 2147483587))) (gName 6))
    (tRet (tOp rMod (tOp rDiv (tOp rMod (tOp rMul (tVar 6) (tOp rAdd (tOp rMod (tVar 6) (tC (.int 65521))) (tC (.int 7)))) (tC (.int 2147483629))) (tC (.int 64))) (tVar 1)))))))))))
theorem sx_ldraw {K : PySem.W.Frag} : SX ⟨K, E0, cx0⟩ R_ldraw (fz rI) (t_ldraw K) M_ldraw :=
    (s_seq (s_asgB (vs := [2, 3, 4]) (x_varL (Late.ow a_ldraw_0)) (b_unl3 (n_name a_ldraw_2 (by decide)) (n_name a_ldraw_3 (by decide)) (n_name a_ldraw_4 (by decide))))
    (s_seq (s_if (x_test (x_tOp v_gt Cv.id (x_var a_ldraw_4) (x_is Cv.id (x_c fun _ => rfl)))) (s_seq (s_setI v_set32 nt_L3 ownI_q a_ldraw_0 (x_tOp v_div Cv.id (x_var a_ldraw_4) (x_is Cv.id (x_var a_ldraw_1))) (x_c fun _ => rfl))
    (s_ret (x_tOp v_mod Cv.id (x_var a_ldraw_4) (x_is Cv.id (x_var a_ldraw_1))))) s_next)
    (s_seq (s_setI v_set31 nt_L3 ownI_q a_ldraw_0 (x_tOp v_add Cv.id (x_var a_ldraw_3) (x_is Cv.id (x_c fun _ => rfl))) (x_c fun _ => rfl))
    (s_seq (s_set a_ldraw_5 (x_tOp v_add Cv.id (x_tOp v_add Cv.id (x_tOp v_mul Cv.id (x_tOp v_mul Cv.id (x_c fun _ => rfl) (x_is Cv.id (x_var a_ldraw_3))) (x_is Cv.id (x_var a_ldraw_3))) (x_is Cv.id (x_tOp v_mul Cv.id (x_c fun _ => rfl) (x_is Cv.id (x_var a_ldraw_3))))) (x_is Cv.id (x_c fun _ => rfl))))
    (s_cutC (s_if (x_test (x_tOp v_gt Cv.id (x_tCB v_lenS (x_aone (x_is Cv.id (x_var a_ldraw_2)))) (x_is Cv.id (x_c fun _ => rfl)))) (s_set a_ldraw_5 (x_tOp v_ixS Cv.id (x_var a_ldraw_2) (x_is Cv.id (x_tOp v_mod Cv.id (x_var a_ldraw_3) (x_is Cv.id (x_tCB v_lenS (x_aone (x_is Cv.id (x_var a_ldraw_2))))))))) s_next)
    (s_seq (s_ifB (x_and (x_test (x_tOp v_lt Cv.id (x_var a_ldraw_3) (x_is Cv.id (x_tCB v_lenS (x_aone (x_is Cv.id (x_var a_ldraw_2))))))) (x_test (x_tOp v_ge Cv.id (x_tCB v_abs (x_aone (x_is Cv.id (x_var a_ldraw_5)))) (x_is Cv.id (x_powc (by decide)))))) (s_seq (s_setI v_set32 nt_L3 ownI_q a_ldraw_0 (x_tOp v_div Cv.id (x_tCB v_abs (x_aone (x_is Cv.id (x_var a_ldraw_5)))) (x_is Cv.id (x_var a_ldraw_1))) (x_c fun _ => rfl))
    (s_ret (x_tOp v_mod Cv.id (x_tCB v_abs (x_aone (x_is Cv.id (x_var a_ldraw_5)))) (x_is Cv.id (x_var a_ldraw_1))))) s_next)
    (s_seq (s_set a_ldraw_6 (x_tOp v_mod Cv.id (x_tOp v_mul Cv.id (x_tOp v_add Cv.id (x_tOp v_add Cv.id (x_tOp v_mod Cv.id (x_var a_ldraw_5) (x_is Cv.id (x_c fun _ => rfl))) (x_is Cv.id (x_tOp v_mul Cv.id (x_c fun _ => rfl) (x_is Cv.id (x_var a_ldraw_3))))) (x_is Cv.id (x_c fun _ => rfl))) (x_is Cv.id (x_c fun _ => rfl))) (x_is Cv.id (x_c fun _ => rfl))))
    (s_seq (s_set a_ldraw_6 (x_tOp v_mod Cv.id (x_tOp v_add Cv.id (x_tOp v_add Cv.id (x_tOp v_mul Cv.id (x_var a_ldraw_6) (x_is Cv.id (x_var a_ldraw_6))) (x_is Cv.id (x_tOp v_mul Cv.id (x_c fun _ => rfl) (x_is Cv.id (x_var a_ldraw_3))))) (x_is Cv.id (x_c fun _ => rfl))) (x_is Cv.id (x_c fun _ => rfl))))
    (s_ret (x_tOp v_mod Cv.id (x_tOp v_div Cv.id (x_tOp v_mod Cv.id (x_tOp v_mul Cv.id (x_var a_ldraw_6) (x_is Cv.id (x_tOp v_add Cv.id (x_tOp v_mod Cv.id (x_var a_ldraw_6) (x_is Cv.id (x_c fun _ => rfl))) (x_is Cv.id (x_c fun _ => rfl))))) (x_is Cv.id (x_c fun _ => rfl))) (x_is Cv.id (x_c fun _ => rfl))) (x_is Cv.id (x_var a_ldraw_1))))))))))))
theorem rd_ldraw {K : PySem.W.Frag} {H : Hp} {vs : List V} {Q : VK} {E : XK} {N : List Str} (h : sp_ldraw K vs H Q E) (hN : N.length = 7 := by rfl) : t_ldraw K { nx := fun _ H' => Q .non H', rt := Q } (start N vs) H := by
  have h : spI K cx0 (oL3 rScr rI rI) (aOne (ir rI)) (fz rI) (fun (s : ((List Int) × Int × Int)) (a : Int) => (M_ldraw (some s, some a, none, none, none, none, none, ())).runI l_ldraw_0 none) vs H Q E := h
  refine d_I (dn := none) (ra := (aOne (ir rI))) (e0 := fun (s : ((List Int) × Int × Int)) (a : Int) => (some s, some a, none, none, none, none, none, ())) (sx_ldraw) a_ldraw_0 ?_ ?_ h
  · intro G H p ho st ws a k1 k2 k3 s hr
    obtain ⟨v1, rfl, h1⟩ := hr
    rw [show start N [.ref p, v1] = [some (.ref p), some v1, none, none, none, none, none] by simp [L2.start, hN]]
    exact e_io k1 k2 k3 rfl ⟨rfl, rfl⟩ (e_fr h1 (e_frN (e_frN (e_frN (e_frN (e_frN e_nil))))))
  · intro b h; cases h
abbrev E_lpicked : Type := Option ((List Int) × Int × Int) × Option (List Int) × Option Int × Option (List Int) × Option (List Int) × Option Int × Unit
def R_lpicked : ERep E_lpicked := (eIo 0 (oL3 rScr rI rI) (eBo (oL rI) (eFr rI (eOw (oL rI) (eOw (oL rI) (eFr rI eNil))))))
abbrev l_lpicked_0 : Ln E_lpicked ((List Int) × Int × Int) := Ln.z
theorem a_lpicked_0 : OwAt R_lpicked 0 (ownI 0) (oL3 rScr rI rI) l_lpicked_0 := OwAt.z
abbrev l_lpicked_1 : Ln E_lpicked (List Int) := (Ln.s Ln.z)
theorem a_lpicked_1 : BoAt R_lpicked 1 (oL rI) l_lpicked_1 := (BoAt.sO BoAt.z)
abbrev l_lpicked_2 : Ln E_lpicked Int := (Ln.s (Ln.s Ln.z))
theorem a_lpicked_2 : FrAt R_lpicked 2 rI l_lpicked_2 := (FrAt.sO (FrAt.sB FrAt.z))
abbrev l_lpicked_3 : Ln E_lpicked (List Int) := (Ln.s (Ln.s (Ln.s Ln.z)))
theorem a_lpicked_3 : OwAt R_lpicked 3 ownN (oL rI) l_lpicked_3 := (OwAt.sO (OwAt.sB (OwAt.sF OwAt.z)))
abbrev l_lpicked_4 : Ln E_lpicked (List Int) := (Ln.s (Ln.s (Ln.s (Ln.s Ln.z))))
theorem a_lpicked_4 : OwAt R_lpicked 4 ownN (oL rI) l_lpicked_4 := (OwAt.sO (OwAt.sB (OwAt.sF (OwAt.sO OwAt.z))))
abbrev l_lpicked_5 : Ln E_lpicked Int := (Ln.s (Ln.s (Ln.s (Ln.s (Ln.s Ln.z)))))
theorem a_lpicked_5 : FrAt R_lpicked 5 rI l_lpicked_5 := (FrAt.sO (FrAt.sB (FrAt.sF (FrAt.sO (FrAt.sO FrAt.z)))))
def M_lpicked : E_lpicked → So E_lpicked (List Int) :=
    (mSeq (mSet l_lpicked_3 (mUn gId (mVar l_lpicked_1)))
    (mSeq (mSet l_lpicked_4 (mUn szOk (mC ([] : List Int))))
    (mCut (mKill (fun e => (Ln.put l_lpicked_5 none e)) (mFor (mRng1 (mVar l_lpicked_2)) (pN l_lpicked_5)
    (mKill (fun e => (Ln.put l_lpicked_5 none e)) (mDrop (mBM l_lpicked_4 gApp (mBM l_lpicked_3 gPopAt (mCallI l_lpicked_0 (fun s p => m_ldraw s p) (mUn gLen (mVar l_lpicked_3)))))))))
    (mRet (mMove l_lpicked_4)))))
def m_lpicked (x0 : ((List Int) × Int × Int)) (x1 : (List Int)) (x2 : Int) : Rs ((List Int) × Int × Int) (List Int) := (M_lpicked (some x0, some x1, some x2, none, none, none, ())).runI l_lpicked_0 none
abbrev u_lpicked (s : ((List Int) × Int × Int)) (p : (List Int) × Int) : Rs ((List Int) × Int × Int) (List Int) := m_lpicked s (p.1) (p.2)
def sp_lpicked (K : PySem.W.Frag) : Sp := spI K cx0 (oL3 rScr rI rI) (aCons (rd (oL rI)) (aOne (ir rI))) (fs (oL rI)) u_lpicked
theorem len_lpicked (K : PySem.W.Frag) : ∀ vs H Q E, sp_lpicked K vs H Q E → vs.length = 3 := len_I (ALen.cons ALen.one)
def t_lpicked (K : PySem.W.Frag) : TS :=
    (tSeq (tAsg (tCB (rListOf K) (tCons (tVar 1) tNil)) (gName 3))
    (tSeq (tAsg (tLst tNil) (gName 4))
    (tSeq (tFor (iRng1 (tCons (tVar 2) tNil)) (gName 5)
    (tDrop (tBM K "list" rAppend (tVar 4) (tCons (tBM K "list" rPopAt (tVar 3) (tCons (tCall (sp_ldraw K) [] E0 (tCons (tVar 0) (tCons (tCB (rLenL K) (tCons (tVar 3) tNil)) tNil))) tNil)) tNil))))
    (tRet (tVar 4)))))
theorem sx_lpicked {K : PySem.W.Frag} : SX ⟨K, E0, cx0⟩ R_lpicked (fs (oL rI)) (t_lpicked K) M_lpicked :=
    (s_seq (s_setO a_lpicked_3 (x_tCBF v_lstOfL (x_aone (x_varL (Late.bo a_lpicked_1)))))
    (s_seq (s_setO a_lpicked_4 (x_lst (x_lnil (r := rI))))
    (s_seqC (s_kill (Kl.fr a_lpicked_5) (s_for (vs := [5]) (x_rng1 (x_aone (x_is Cv.id (x_var a_lpicked_2)))) (n_name a_lpicked_5 (by decide))
    (s_kill (Kl.fr a_lpicked_5) (s_drop (x_bm v_app ty_L nt_L ownN_q a_lpicked_4 (x_gone (x_bm v_popAt ty_L nt_L ownN_q a_lpicked_3 (x_gone (x_callI a_lpicked_0 ownI_q (x_pone Cv.id (x_tCB v_lenL (x_aone (x_varL (Late.ow a_lpicked_3))))))))))))))
    (s_ret (x_move a_lpicked_4)))))
theorem rd_lpicked {K : PySem.W.Frag} {H : Hp} {vs : List V} {Q : VK} {E : XK} {N : List Str} (h : sp_lpicked K vs H Q E) (hN : N.length = 6 := by rfl) : t_lpicked K { nx := fun _ H' => Q .non H', rt := Q } (start N vs) H := by
  have h : spI K cx0 (oL3 rScr rI rI) (aCons (rd (oL rI)) (aOne (ir rI))) (fs (oL rI)) (fun (s : ((List Int) × Int × Int)) (a : (List Int) × Int) => (M_lpicked (some s, some a.1, some a.2, none, none, none, ())).runI l_lpicked_0 none) vs H Q E := h
  refine d_I (dn := none) (ra := (aCons (rd (oL rI)) (aOne (ir rI)))) (e0 := fun (s : ((List Int) × Int × Int)) (a : (List Int) × Int) => (some s, some a.1, some a.2, none, none, none, ())) (sx_lpicked) a_lpicked_0 ?_ ?_ h
  · intro G H p ho st ws a k1 k2 k3 s hr
    obtain ⟨v1, _, rfl, h1, ⟨v2, rfl, h2⟩⟩ := hr
    rw [show start N [.ref p, v1, v2] = [some (.ref p), some v1, some v2, none, none, none] by simp [L2.start, hN]]
    exact e_io k1 k2 k3 rfl ⟨rfl, rfl⟩ (e_bo h1 bo_I (e_fr h2 (e_owN (e_owN (e_frN e_nil)))))
  · intro b h; cases h
abbrev E_lpicked_t : Type := Option ((List Int) × Int × Int) × Option (List (List Int)) × Option Int × Option (List (List Int)) × Option (List (List Int)) × Option Int × Unit
def R_lpicked_t : ERep E_lpicked_t := (eIo 0 (oL3 rScr rI rI) (eBo (oL (rz (oT rI))) (eFr rI (eOw (oL (rz (oT rI))) (eOw (oL (rz (oT rI))) (eFr rI eNil))))))
abbrev l_lpicked_t_0 : Ln E_lpicked_t ((List Int) × Int × Int) := Ln.z
theorem a_lpicked_t_0 : OwAt R_lpicked_t 0 (ownI 0) (oL3 rScr rI rI) l_lpicked_t_0 := OwAt.z
abbrev l_lpicked_t_1 : Ln E_lpicked_t (List (List Int)) := (Ln.s Ln.z)
theorem a_lpicked_t_1 : BoAt R_lpicked_t 1 (oL (rz (oT rI))) l_lpicked_t_1 := (BoAt.sO BoAt.z)
abbrev l_lpicked_t_2 : Ln E_lpicked_t Int := (Ln.s (Ln.s Ln.z))
theorem a_lpicked_t_2 : FrAt R_lpicked_t 2 rI l_lpicked_t_2 := (FrAt.sO (FrAt.sB FrAt.z))
abbrev l_lpicked_t_3 : Ln E_lpicked_t (List (List Int)) := (Ln.s (Ln.s (Ln.s Ln.z)))
theorem a_lpicked_t_3 : OwAt R_lpicked_t 3 ownN (oL (rz (oT rI))) l_lpicked_t_3 := (OwAt.sO (OwAt.sB (OwAt.sF OwAt.z)))
abbrev l_lpicked_t_4 : Ln E_lpicked_t (List (List Int)) := (Ln.s (Ln.s (Ln.s (Ln.s Ln.z))))
theorem a_lpicked_t_4 : OwAt R_lpicked_t 4 ownN (oL (rz (oT rI))) l_lpicked_t_4 := (OwAt.sO (OwAt.sB (OwAt.sF (OwAt.sO OwAt.z))))
abbrev l_lpicked_t_5 : Ln E_lpicked_t Int := (Ln.s (Ln.s (Ln.s (Ln.s (Ln.s Ln.z)))))
theorem a_lpicked_t_5 : FrAt R_lpicked_t 5 rI l_lpicked_t_5 := (FrAt.sO (FrAt.sB (FrAt.sF (FrAt.sO (FrAt.sO FrAt.z)))))
def M_lpicked_t : E_lpicked_t → So E_lpicked_t (List (List Int)) :=
    (mSeq (mSet l_lpicked_t_3 (mUn gId (mVar l_lpicked_t_1)))
    (mSeq (mSet l_lpicked_t_4 (mUn szOk (mC ([] : List (List Int)))))
    (mCut (mKill (fun e => (Ln.put l_lpicked_t_5 none e)) (mFor (mRng1 (mVar l_lpicked_t_2)) (pN l_lpicked_t_5)
    (mKill (fun e => (Ln.put l_lpicked_t_5 none e)) (mDrop (mBM l_lpicked_t_4 gApp (mBM l_lpicked_t_3 gPopAt (mCallI l_lpicked_t_0 (fun s p => m_ldraw s p) (mUn gLen (mVar l_lpicked_t_3)))))))))
    (mRet (mMove l_lpicked_t_4)))))
def m_lpicked_t (x0 : ((List Int) × Int × Int)) (x1 : (List (List Int))) (x2 : Int) : Rs ((List Int) × Int × Int) (List (List Int)) := (M_lpicked_t (some x0, some x1, some x2, none, none, none, ())).runI l_lpicked_t_0 none
abbrev u_lpicked_t (s : ((List Int) × Int × Int)) (p : (List (List Int)) × Int) : Rs ((List Int) × Int × Int) (List (List Int)) := m_lpicked_t s (p.1) (p.2)
def sp_lpicked_t (K : PySem.W.Frag) : Sp := spI K cx0 (oL3 rScr rI rI) (aCons (rd (oL (rz (oT rI)))) (aOne (ir rI))) (fs (oL (rz (oT rI)))) u_lpicked_t
theorem len_lpicked_t (K : PySem.W.Frag) : ∀ vs H Q E, sp_lpicked_t K vs H Q E → vs.length = 3 := len_I (ALen.cons ALen.one)
def t_lpicked_t (K : PySem.W.Frag) : TS :=
    (tSeq (tAsg (tCB (rListOf K) (tCons (tVar 1) tNil)) (gName 3))
    (tSeq (tAsg (tLst tNil) (gName 4))
    (tSeq (tFor (iRng1 (tCons (tVar 2) tNil)) (gName 5)
    (tDrop (tBM K "list" rAppend (tVar 4) (tCons (tBM K "list" rPopAt (tVar 3) (tCons (tCall (sp_ldraw K) [] E0 (tCons (tVar 0) (tCons (tCB (rLenL K) (tCons (tVar 3) tNil)) tNil))) tNil)) tNil))))
    (tRet (tVar 4)))))
theorem sx_lpicked_t {K : PySem.W.Frag} : SX ⟨K, E0, cx0⟩ R_lpicked_t (fs (oL (rz (oT rI)))) (t_lpicked_t K) M_lpicked_t :=
    (s_seq (s_setO a_lpicked_t_3 (x_tCBF v_lstOfL (x_aone (x_varL (Late.bo a_lpicked_t_1)))))
    (s_seq (s_setO a_lpicked_t_4 (x_lst (x_lnil (r := (rz (oT rI))))))
    (s_seqC (s_kill (Kl.fr a_lpicked_t_5) (s_for (vs := [5]) (x_rng1 (x_aone (x_is Cv.id (x_var a_lpicked_t_2)))) (n_name a_lpicked_t_5 (by decide))
    (s_kill (Kl.fr a_lpicked_t_5) (s_drop (x_bm v_app ty_L nt_L ownN_q a_lpicked_t_4 (x_gone (x_bm v_popAt ty_L nt_L ownN_q a_lpicked_t_3 (x_gone (x_callI a_lpicked_t_0 ownI_q (x_pone Cv.id (x_tCB v_lenL (x_aone (x_varL (Late.ow a_lpicked_t_3))))))))))))))
    (s_ret (x_move a_lpicked_t_4)))))
theorem rd_lpicked_t {K : PySem.W.Frag} {H : Hp} {vs : List V} {Q : VK} {E : XK} {N : List Str} (h : sp_lpicked_t K vs H Q E) (hN : N.length = 6 := by rfl) : t_lpicked_t K { nx := fun _ H' => Q .non H', rt := Q } (start N vs) H := by
  have h : spI K cx0 (oL3 rScr rI rI) (aCons (rd (oL (rz (oT rI)))) (aOne (ir rI))) (fs (oL (rz (oT rI)))) (fun (s : ((List Int) × Int × Int)) (a : (List (List Int)) × Int) => (M_lpicked_t (some s, some a.1, some a.2, none, none, none, ())).runI l_lpicked_t_0 none) vs H Q E := h
  refine d_I (dn := none) (ra := (aCons (rd (oL (rz (oT rI)))) (aOne (ir rI)))) (e0 := fun (s : ((List Int) × Int × Int)) (a : (List (List Int)) × Int) => (some s, some a.1, some a.2, none, none, none, ())) (sx_lpicked_t) a_lpicked_t_0 ?_ ?_ h
  · intro G H p ho st ws a k1 k2 k3 s hr
    obtain ⟨v1, _, rfl, h1, ⟨v2, rfl, h2⟩⟩ := hr
    rw [show start N [.ref p, v1, v2] = [some (.ref p), some v1, some v2, none, none, none] by simp [L2.start, hN]]
    exact e_io k1 k2 k3 rfl ⟨rfl, rfl⟩ (e_bo h1 bo_I (e_fr h2 (e_owN (e_owN (e_frN e_nil)))))
  · intro b h; cases h
abbrev E_lpicked_r : Type := Option ((List Int) × Int × Int) × Option (List ((List Int) × Th)) × Option Int × Option (List ((List Int) × Th)) × Option (List ((List Int) × Th)) × Option Int × Unit
def R_lpicked_r : ERep E_lpicked_r := (eIo 0 (oL3 rScr rI rI) (eBo (oL (rz (oT2 (rz (oT rI)) rTh))) (eFr rI (eOw (oL (rz (oT2 (rz (oT rI)) rTh))) (eOw (oL (rz (oT2 (rz (oT rI)) rTh))) (eFr rI eNil))))))
abbrev l_lpicked_r_0 : Ln E_lpicked_r ((List Int) × Int × Int) := Ln.z
theorem a_lpicked_r_0 : OwAt R_lpicked_r 0 (ownI 0) (oL3 rScr rI rI) l_lpicked_r_0 := OwAt.z
abbrev l_lpicked_r_1 : Ln E_lpicked_r (List ((List Int) × Th)) := (Ln.s Ln.z)
theorem a_lpicked_r_1 : BoAt R_lpicked_r 1 (oL (rz (oT2 (rz (oT rI)) rTh))) l_lpicked_r_1 := (BoAt.sO BoAt.z)
abbrev l_lpicked_r_2 : Ln E_lpicked_r Int := (Ln.s (Ln.s Ln.z))
theorem a_lpicked_r_2 : FrAt R_lpicked_r 2 rI l_lpicked_r_2 := (FrAt.sO (FrAt.sB FrAt.z))
abbrev l_lpicked_r_3 : Ln E_lpicked_r (List ((List Int) × Th)) := (Ln.s (Ln.s (Ln.s Ln.z)))
theorem a_lpicked_r_3 : OwAt R_lpicked_r 3 ownN (oL (rz (oT2 (rz (oT rI)) rTh))) l_lpicked_r_3 := (OwAt.sO (OwAt.sB (OwAt.sF OwAt.z)))
abbrev l_lpicked_r_4 : Ln E_lpicked_r (List ((List Int) × Th)) := (Ln.s (Ln.s (Ln.s (Ln.s Ln.z))))
theorem a_lpicked_r_4 : OwAt R_lpicked_r 4 ownN (oL (rz (oT2 (rz (oT rI)) rTh))) l_lpicked_r_4 := (OwAt.sO (OwAt.sB (OwAt.sF (OwAt.sO OwAt.z))))
abbrev l_lpicked_r_5 : Ln E_lpicked_r Int := (Ln.s (Ln.s (Ln.s (Ln.s (Ln.s Ln.z)))))
theorem a_lpicked_r_5 : FrAt R_lpicked_r 5 rI l_lpicked_r_5 := (FrAt.sO (FrAt.sB (FrAt.sF (FrAt.sO (FrAt.sO FrAt.z)))))
def M_lpicked_r : E_lpicked_r → So E_lpicked_r (List ((List Int) × Th)) :=
    (mSeq (mSet l_lpicked_r_3 (mUn gId (mVar l_lpicked_r_1)))
    (mSeq (mSet l_lpicked_r_4 (mUn szOk (mC ([] : List ((List Int) × Th)))))
    (mCut (mKill (fun e => (Ln.put l_lpicked_r_5 none e)) (mFor (mRng1 (mVar l_lpicked_r_2)) (pN l_lpicked_r_5)
    (mKill (fun e => (Ln.put l_lpicked_r_5 none e)) (mDrop (mBM l_lpicked_r_4 gApp (mBM l_lpicked_r_3 gPopAt (mCallI l_lpicked_r_0 (fun s p => m_ldraw s p) (mUn gLen (mVar l_lpicked_r_3)))))))))
    (mRet (mMove l_lpicked_r_4)))))
def m_lpicked_r (x0 : ((List Int) × Int × Int)) (x1 : (List ((List Int) × Th))) (x2 : Int) : Rs ((List Int) × Int × Int) (List ((List Int) × Th)) := (M_lpicked_r (some x0, some x1, some x2, none, none, none, ())).runI l_lpicked_r_0 none
abbrev u_lpicked_r (s : ((List Int) × Int × Int)) (p : (List ((List Int) × Th)) × Int) : Rs ((List Int) × Int × Int) (List ((List Int) × Th)) := m_lpicked_r s (p.1) (p.2)
def sp_lpicked_r (K : PySem.W.Frag) : Sp := spI K cx0 (oL3 rScr rI rI) (aCons (rd (oL (rz (oT2 (rz (oT rI)) rTh)))) (aOne (ir rI))) (fs (oL (rz (oT2 (rz (oT rI)) rTh)))) u_lpicked_r
theorem len_lpicked_r (K : PySem.W.Frag) : ∀ vs H Q E, sp_lpicked_r K vs H Q E → vs.length = 3 := len_I (ALen.cons ALen.one)
def t_lpicked_r (K : PySem.W.Frag) : TS :=
    (tSeq (tAsg (tCB (rListOf K) (tCons (tVar 1) tNil)) (gName 3))
    (tSeq (tAsg (tLst tNil) (gName 4))
    (tSeq (tFor (iRng1 (tCons (tVar 2) tNil)) (gName 5)
    (tDrop (tBM K "list" rAppend (tVar 4) (tCons (tBM K "list" rPopAt (tVar 3) (tCons (tCall (sp_ldraw K) [] E0 (tCons (tVar 0) (tCons (tCB (rLenL K) (tCons (tVar 3) tNil)) tNil))) tNil)) tNil))))
    (tRet (tVar 4)))))
theorem sx_lpicked_r {K : PySem.W.Frag} : SX ⟨K, E0, cx0⟩ R_lpicked_r (fs (oL (rz (oT2 (rz (oT rI)) rTh)))) (t_lpicked_r K) M_lpicked_r :=
    (s_seq (s_setO a_lpicked_r_3 (x_tCBF v_lstOfL (x_aone (x_varL (Late.bo a_lpicked_r_1)))))
    (s_seq (s_setO a_lpicked_r_4 (x_lst (x_lnil (r := (rz (oT2 (rz (oT rI)) rTh))))))
    (s_seqC (s_kill (Kl.fr a_lpicked_r_5) (s_for (vs := [5]) (x_rng1 (x_aone (x_is Cv.id (x_var a_lpicked_r_2)))) (n_name a_lpicked_r_5 (by decide))
    (s_kill (Kl.fr a_lpicked_r_5) (s_drop (x_bm v_app ty_L nt_L ownN_q a_lpicked_r_4 (x_gone (x_bm v_popAt ty_L nt_L ownN_q a_lpicked_r_3 (x_gone (x_callI a_lpicked_r_0 ownI_q (x_pone Cv.id (x_tCB v_lenL (x_aone (x_varL (Late.ow a_lpicked_r_3))))))))))))))
    (s_ret (x_move a_lpicked_r_4)))))
theorem rd_lpicked_r {K : PySem.W.Frag} {H : Hp} {vs : List V} {Q : VK} {E : XK} {N : List Str} (h : sp_lpicked_r K vs H Q E) (hN : N.length = 6 := by rfl) : t_lpicked_r K { nx := fun _ H' => Q .non H', rt := Q } (start N vs) H := by
  have h : spI K cx0 (oL3 rScr rI rI) (aCons (rd (oL (rz (oT2 (rz (oT rI)) rTh)))) (aOne (ir rI))) (fs (oL (rz (oT2 (rz (oT rI)) rTh)))) (fun (s : ((List Int) × Int × Int)) (a : (List ((List Int) × Th)) × Int) => (M_lpicked_r (some s, some a.1, some a.2, none, none, none, ())).runI l_lpicked_r_0 none) vs H Q E := h
  refine d_I (dn := none) (ra := (aCons (rd (oL (rz (oT2 (rz (oT rI)) rTh)))) (aOne (ir rI)))) (e0 := fun (s : ((List Int) × Int × Int)) (a : (List ((List Int) × Th)) × Int) => (some s, some a.1, some a.2, none, none, none, ())) (sx_lpicked_r) a_lpicked_r_0 ?_ ?_ h
  · intro G H p ho st ws a k1 k2 k3 s hr
    obtain ⟨v1, _, rfl, h1, ⟨v2, rfl, h2⟩⟩ := hr
    rw [show start N [.ref p, v1, v2] = [some (.ref p), some v1, some v2, none, none, none] by simp [L2.start, hN]]
    exact e_io k1 k2 k3 rfl ⟨rfl, rfl⟩ (e_bo h1 bo_I (e_fr h2 (e_owN (e_owN (e_frN e_nil)))))
  · intro b h; cases h
abbrev E_lcorners : Type := Option ((List Int) × Int × Int) × Option Int × Option Int × Option (List Int) × Option Int × Option (List Int) × Option Int × Option Int × Unit
def R_lcorners : ERep E_lcorners := (eIo 0 (oL3 rScr rI rI) (eFr rI (eFr rI (eFr (rz (oL rI)) (eFr rI (eFr (rz (oL rI)) (eFr rI (eFr rI eNil))))))))
abbrev l_lcorners_0 : Ln E_lcorners ((List Int) × Int × Int) := Ln.z
theorem a_lcorners_0 : OwAt R_lcorners 0 (ownI 0) (oL3 rScr rI rI) l_lcorners_0 := OwAt.z
abbrev l_lcorners_1 : Ln E_lcorners Int := (Ln.s Ln.z)
theorem a_lcorners_1 : FrAt R_lcorners 1 rI l_lcorners_1 := (FrAt.sO FrAt.z)
abbrev l_lcorners_2 : Ln E_lcorners Int := (Ln.s (Ln.s Ln.z))
theorem a_lcorners_2 : FrAt R_lcorners 2 rI l_lcorners_2 := (FrAt.sO (FrAt.sF FrAt.z))
abbrev l_lcorners_3 : Ln E_lcorners (List Int) := (Ln.s (Ln.s (Ln.s Ln.z)))
theorem a_lcorners_3 : FrAt R_lcorners 3 (rz (oL rI)) l_lcorners_3 := (FrAt.sO (FrAt.sF (FrAt.sF FrAt.z)))
abbrev l_lcorners_4 : Ln E_lcorners Int := (Ln.s (Ln.s (Ln.s (Ln.s Ln.z))))
theorem a_lcorners_4 : FrAt R_lcorners 4 rI l_lcorners_4 := (FrAt.sO (FrAt.sF (FrAt.sF (FrAt.sF FrAt.z))))
abbrev l_lcorners_5 : Ln E_lcorners (List Int) := (Ln.s (Ln.s (Ln.s (Ln.s (Ln.s Ln.z)))))
theorem a_lcorners_5 : FrAt R_lcorners 5 (rz (oL rI)) l_lcorners_5 := (FrAt.sO (FrAt.sF (FrAt.sF (FrAt.sF (FrAt.sF FrAt.z)))))
abbrev l_lcorners_6 : Ln E_lcorners Int := (Ln.s (Ln.s (Ln.s (Ln.s (Ln.s (Ln.s Ln.z))))))
theorem a_lcorners_6 : FrAt R_lcorners 6 rI l_lcorners_6 := (FrAt.sO (FrAt.sF (FrAt.sF (FrAt.sF (FrAt.sF (FrAt.sF FrAt.z))))))
abbrev l_lcorners_7 : Ln E_lcorners Int := (Ln.s (Ln.s (Ln.s (Ln.s (Ln.s (Ln.s (Ln.s Ln.z)))))))
theorem a_lcorners_7 : FrAt R_lcorners 7 rI l_lcorners_7 := (FrAt.sO (FrAt.sF (FrAt.sF (FrAt.sF (FrAt.sF (FrAt.sF (FrAt.sF FrAt.z)))))))
def M_lcorners : E_lcorners → So E_lcorners (List Int) :=
    (mSeq (mSet l_lcorners_2 (mOp gIx (mUn szOk (mCons (mC (1 : Int)) (mCons (mC (1 : Int)) (mCons (mC (3 : Int)) (mCons (mOp gAdd (mC (1000000000 : Int)) (mC (7 : Int))) (mCons (mC (10000000000000000000000000000 : Int)) (mC []))))))) (mCallI l_lcorners_0 (fun s p => m_ldraw s p) (mC (5 : Int)))))
    (mSeq (mSet l_lcorners_3 (mUn szOk (mCons (mC (0 : Int)) (mCons (mC (1 : Int)) (mCons (mOp gSubI (mC (0 : Int)) (mOp gMul (mVar l_lcorners_2) (mCallI l_lcorners_0 (fun s p => m_ldraw s p) (mOp gAdd (mVar l_lcorners_1) (mC (1 : Int)))))) (mCons (mOp gSubI (mOp gSubI (mC (1000000000000000000000000000000 : Int)) (mC (1 : Int))) (mOp gMul (mVar l_lcorners_2) (mOp gSubI (mVar l_lcorners_1) (mC (1 : Int))))) (mC [])))))))
    (mSeq (mSet l_lcorners_4 (mOp gIx (mVar l_lcorners_3) (mCallI l_lcorners_0 (fun s p => m_ldraw s p) (mC (4 : Int)))))
    (mSeq (mSet l_lcorners_5 (mLc (mRng1 (mVar l_lcorners_1)) (pN l_lcorners_6) mYes (mOp gAdd (mVar l_lcorners_4) (mOp gMul (mVar l_lcorners_2) (mVar l_lcorners_6))) (fun e => Ln.put l_lcorners_6 none (id e)) (fun e e1 => (fun _ e1 => e1) e (Ln.put l_lcorners_6 (Ln.get l_lcorners_6 (id e)) e1))))
    (mSeq (mIfS (mOp gEq (mCallI l_lcorners_0 (fun s p => m_ldraw s p) (mC (2 : Int))) (mC (0 : Int))) (mRet (mVar l_lcorners_5)) mNext)
    (mRet (mLc (mUn gRev (mVar l_lcorners_5)) (pN l_lcorners_7) mYes (mOp gSubI (mC (0 : Int)) (mVar l_lcorners_7)) (fun e => Ln.put l_lcorners_7 none (id e)) (fun e e1 => (fun _ e1 => e1) e (Ln.put l_lcorners_7 (Ln.get l_lcorners_7 (id e)) e1)))))))))
def m_lcorners (x0 : ((List Int) × Int × Int)) (x1 : Int) : Rs ((List Int) × Int × Int) (List Int) := (M_lcorners (some x0, some x1, none, none, none, none, none, none, ())).runI l_lcorners_0 none
abbrev u_lcorners (s : ((List Int) × Int × Int)) (p : Int) : Rs ((List Int) × Int × Int) (List Int) := m_lcorners s p
def sp_lcorners (K : PySem.W.Frag) : Sp := spI K cx0 (oL3 rScr rI rI) (aOne (ir rI)) (fz (rz (oL rI))) u_lcorners
theorem len_lcorners (K : PySem.W.Frag) : ∀ vs H Q E, sp_lcorners K vs H Q E → vs.length = 2 := len_I ALen.one
def t_lcorners (K : PySem.W.Frag) : TS :=
    (tSeq (tAsg (tOp (rIxL K) (tLst (tCons (tC (.int 1)) (tCons (tC (.int 1)) (tCons (tC (.int 3)) (tCons (tOp rAdd (tOp rPow (tC (.int 10)) (tC (.int 9))) (tC (.int 7))) (tCons (tOp rPow (tC (.int 10)) (tC (.int 28))) tNil)))))) (tCall (sp_ldraw K) [] E0 (tCons (tVar 0) (tCons (tC (.int 5)) tNil)))) (gName 2))
    (tSeq (tAsg (tLst (tCons (tC (.int 0)) (tCons (tC (.int 1)) (tCons (tOp rSub (tC (.int 0)) (tOp rMul (tVar 2) (tCall (sp_ldraw K) [] E0 (tCons (tVar 0) (tCons (tOp rAdd (tVar 1) (tC (.int 1))) tNil))))) (tCons (tOp rSub (tOp rSub (tOp rPow (tC (.int 10)) (tC (.int 30))) (tC (.int 1))) (tOp rMul (tVar 2) (tOp rSub (tVar 1) (tC (.int 1))))) tNil))))) (gName 3))
    (tSeq (tAsg (tOp (rIxL K) (tVar 3) (tCall (sp_ldraw K) [] E0 (tCons (tVar 0) (tCons (tC (.int 4)) tNil)))) (gName 4))
    (tSeq (tAsg (tLc (iRng1 (tCons (tVar 1) tNil)) (gName 6) tYes (tOp rAdd (tVar 4) (tOp rMul (tVar 2) (tVar 6))) [6]) (gName 5))
    (tSeq (tIfS (tTest (tOp rEq (tCall (sp_ldraw K) [] E0 (tCons (tVar 0) (tCons (tC (.int 2)) tNil))) (tC (.int 0)))) (tRet (tVar 5)) tNext)
    (tRet (tLc (iList K (tRevL K (tVar 5))) (gName 7) tYes (tOp rSub (tC (.int 0)) (tVar 7)) [7])))))))
theorem sx_lcorners {K : PySem.W.Frag} : SX ⟨K, E0, cx0⟩ R_lcorners (fz (rz (oL rI))) (t_lcorners K) M_lcorners :=
    (s_seq (s_set a_lcorners_2 (x_tOp v_ixL Cv.ob (x_fz (x_lst (x_lcons (x_c fun _ => rfl) (x_lcons (x_c fun _ => rfl) (x_lcons (x_c fun _ => rfl) (x_lcons (x_tOp v_add Cv.id (x_powc (by decide)) (x_is Cv.id (x_c fun _ => rfl))) (x_lcons (x_powc (by decide)) x_lnil))))))) (x_is Cv.id (x_callI a_lcorners_0 ownI_q (x_pone Cv.id (x_c fun _ => rfl))))))
    (s_seq (s_set a_lcorners_3 (x_fz (x_lst (x_lcons (x_c fun _ => rfl) (x_lcons (x_c fun _ => rfl) (x_lcons (x_tOp v_sub Cv.id (x_c fun _ => rfl) (x_is Cv.id (x_tOp v_mul Cv.id (x_var a_lcorners_2) (x_is Cv.id (x_callI a_lcorners_0 ownI_q (x_pone Cv.id (x_tOp v_add Cv.id (x_var a_lcorners_1) (x_is Cv.id (x_c fun _ => rfl))))))))) (x_lcons (x_tOp v_sub Cv.id (x_tOp v_sub Cv.id (x_powc (by decide)) (x_is Cv.id (x_c fun _ => rfl))) (x_is Cv.id (x_tOp v_mul Cv.id (x_var a_lcorners_2) (x_is Cv.id (x_tOp v_sub Cv.id (x_var a_lcorners_1) (x_is Cv.id (x_c fun _ => rfl))))))) x_lnil)))))))
    (s_seq (s_set a_lcorners_4 (x_tOp v_ixL Cv.ob (x_var a_lcorners_3) (x_is Cv.id (x_callI a_lcorners_0 ownI_q (x_pone Cv.id (x_c fun _ => rfl))))))
    (s_seq (s_set a_lcorners_5 (x_fz (x_lc (x_rng1 (x_aone (x_is Cv.id (x_var a_lcorners_1)))) (Wp.cons a_lcorners_6 Wp.nil) (n_name a_lcorners_6 (by decide)) x_yes (x_tOp v_add Cv.id (x_var a_lcorners_4) (x_is Cv.id (x_tOp v_mul Cv.id (x_var a_lcorners_2) (x_is Cv.id (x_var a_lcorners_6))))))))
    (s_seq (s_if (x_test (x_tOp v_eqI Cv.id (x_callI a_lcorners_0 ownI_q (x_pone Cv.id (x_c fun _ => rfl))) (x_is Cv.id (x_c fun _ => rfl)))) (s_ret (x_var a_lcorners_5)) s_next)
    (s_ret (x_fz (x_lc (x_iL (x_fz (x_revL (x_is Cv.ob (x_var a_lcorners_5))))) (Wp.cons a_lcorners_7 Wp.nil) (n_name a_lcorners_7 (by decide)) x_yes (x_tOp v_sub Cv.id (x_c fun _ => rfl) (x_is Cv.id (x_var a_lcorners_7)))))))))))
theorem rd_lcorners {K : PySem.W.Frag} {H : Hp} {vs : List V} {Q : VK} {E : XK} {N : List Str} (h : sp_lcorners K vs H Q E) (hN : N.length = 8 := by rfl) : t_lcorners K { nx := fun _ H' => Q .non H', rt := Q } (start N vs) H := by
  have h : spI K cx0 (oL3 rScr rI rI) (aOne (ir rI)) (fz (rz (oL rI))) (fun (s : ((List Int) × Int × Int)) (a : Int) => (M_lcorners (some s, some a, none, none, none, none, none, none, ())).runI l_lcorners_0 none) vs H Q E := h
  refine d_I (dn := none) (ra := (aOne (ir rI))) (e0 := fun (s : ((List Int) × Int × Int)) (a : Int) => (some s, some a, none, none, none, none, none, none, ())) (sx_lcorners) a_lcorners_0 ?_ ?_ h
  · intro G H p ho st ws a k1 k2 k3 s hr
    obtain ⟨v1, rfl, h1⟩ := hr
    rw [show start N [.ref p, v1] = [some (.ref p), some v1, none, none, none, none, none, none] by simp [L2.start, hN]]
    exact e_io k1 k2 k3 rfl ⟨rfl, rfl⟩ (e_fr h1 (e_frN (e_frN (e_frN (e_frN (e_frN (e_frN e_nil)))))))
  · intro b h; cases h
abbrev E_ltwo : Type := Option ((List Int) × Int × Int) × Option Int × Option Int × Option (List Int) × Option (List (List Int)) × Unit
def R_ltwo : ERep E_ltwo := (eIo 0 (oL3 rScr rI rI) (eFr rI (eFr rI (eFr (rz (oL rI)) (eFr (rz (oL (rz (oT rI)))) eNil)))))
abbrev l_ltwo_0 : Ln E_ltwo ((List Int) × Int × Int) := Ln.z
theorem a_ltwo_0 : OwAt R_ltwo 0 (ownI 0) (oL3 rScr rI rI) l_ltwo_0 := OwAt.z
abbrev l_ltwo_1 : Ln E_ltwo Int := (Ln.s Ln.z)
theorem a_ltwo_1 : FrAt R_ltwo 1 rI l_ltwo_1 := (FrAt.sO FrAt.z)
abbrev l_ltwo_2 : Ln E_ltwo Int := (Ln.s (Ln.s Ln.z))
theorem a_ltwo_2 : FrAt R_ltwo 2 rI l_ltwo_2 := (FrAt.sO (FrAt.sF FrAt.z))
abbrev l_ltwo_3 : Ln E_ltwo (List Int) := (Ln.s (Ln.s (Ln.s Ln.z)))
theorem a_ltwo_3 : FrAt R_ltwo 3 (rz (oL rI)) l_ltwo_3 := (FrAt.sO (FrAt.sF (FrAt.sF FrAt.z)))
abbrev l_ltwo_4 : Ln E_ltwo (List (List Int)) := (Ln.s (Ln.s (Ln.s (Ln.s Ln.z))))
theorem a_ltwo_4 : FrAt R_ltwo 4 (rz (oL (rz (oT rI)))) l_ltwo_4 := (FrAt.sO (FrAt.sF (FrAt.sF (FrAt.sF FrAt.z))))
def M_ltwo : E_ltwo → So E_ltwo (List (List Int)) :=
    (mSeq (mSet l_ltwo_3 (mCallI l_ltwo_0 (fun s p => m_lcorners s p) (mOp gMul (mC (2 : Int)) (mVar l_ltwo_1))))
    (mSeq (mSet l_ltwo_4 (mUn szOk (mCons (mUn gId (mSl gCut (mVar l_ltwo_3) (mC none) (mPart (mVar l_ltwo_1)))) (mCons (mUn gId (mOp gCat (mSl gCut (mVar l_ltwo_3) (mC none) (mPart (mVar l_ltwo_2))) (mSl gCut (mVar l_ltwo_3) (mPart (mVar l_ltwo_1)) (mPart (mOp gSubI (mOp gMul (mC (2 : Int)) (mVar l_ltwo_1)) (mVar l_ltwo_2)))))) (mC [])))))
    (mRet (mUn gId (mCallI l_ltwo_0 (fun s p => m_lpicked_t s (p.1) (p.2)) (mPair (mVar l_ltwo_4) (mC (2 : Int))))))))
def m_ltwo (x0 : ((List Int) × Int × Int)) (x1 : Int) (x2 : Int) : Rs ((List Int) × Int × Int) (List (List Int)) := (M_ltwo (some x0, some x1, some x2, none, none, ())).runI l_ltwo_0 none
abbrev u_ltwo (s : ((List Int) × Int × Int)) (p : Int × Int) : Rs ((List Int) × Int × Int) (List (List Int)) := m_ltwo s (p.1) (p.2)
def sp_ltwo (K : PySem.W.Frag) : Sp := spI K cx0 (oL3 rScr rI rI) (aCons (ir rI) (aOne (ir rI))) (fz (rTZ (rz (oT rI)))) u_ltwo
theorem len_ltwo (K : PySem.W.Frag) : ∀ vs H Q E, sp_ltwo K vs H Q E → vs.length = 3 := len_I (ALen.cons ALen.one)
def t_ltwo (K : PySem.W.Frag) : TS :=
    (tSeq (tAsg (tCall (sp_lcorners K) [] E0 (tCons (tVar 0) (tCons (tOp rMul (tC (.int 2)) (tVar 1)) tNil))) (gName 3))
    (tSeq (tAsg (tLst (tCons (tCB (rTupOf K) (tCons (tSl (rSlL K) (tVar 3) tNoPart (tPart (tVar 1))) tNil)) (tCons (tCB (rTupOf K) (tCons (tOp rCat (tSl (rSlL K) (tVar 3) tNoPart (tPart (tVar 2))) (tSl (rSlL K) (tVar 3) (tPart (tVar 1)) (tPart (tOp rSub (tOp rMul (tC (.int 2)) (tVar 1)) (tVar 2))))) tNil)) tNil))) (gName 4))
    (tRet (tCB (rTupZ K) (tCons (tCall (sp_lpicked_t K) [] E0 (tCons (tVar 0) (tCons (tVar 4) (tCons (tC (.int 2)) tNil)))) tNil)))))
theorem sx_ltwo {K : PySem.W.Frag} : SX ⟨K, E0, cx0⟩ R_ltwo (fz (rTZ (rz (oT rI)))) (t_ltwo K) M_ltwo :=
    (s_seq (s_set a_ltwo_3 (x_callI a_ltwo_0 ownI_q (x_pone Cv.id (x_tOp v_mul Cv.id (x_c fun _ => rfl) (x_is Cv.id (x_var a_ltwo_1))))))
    (s_seq (s_set a_ltwo_4 (x_fz (x_lst (x_lcons (x_tCB v_tupOfL (x_aone (x_is Cv.ob (x_fz (x_slF v_slL Cv.ob (x_var a_ltwo_3) x_noPart (x_part (x_var a_ltwo_1))))))) (x_lcons (x_tCB v_tupOfL (x_aone (x_is Cv.ob (x_fz (x_tOpF v_cat Cv.ob (x_fz (x_slF v_slL Cv.ob (x_var a_ltwo_3) x_noPart (x_part (x_var a_ltwo_2)))) (x_is Cv.ob (x_fz (x_slF v_slL Cv.ob (x_var a_ltwo_3) (x_part (x_var a_ltwo_1)) (x_part (x_tOp v_sub Cv.id (x_tOp v_mul Cv.id (x_c fun _ => rfl) (x_is Cv.id (x_var a_ltwo_1))) (x_is Cv.id (x_var a_ltwo_2)))))))))))) x_lnil)))))
    (s_ret (x_tCB v_tupZ (x_aone (x_is Cv.ob (x_fz (x_callIF a_ltwo_0 ownI_q (x_pcons Cv.ob (x_var a_ltwo_4) (x_pone Cv.id (x_c fun _ => rfl)))))))))))
theorem rd_ltwo {K : PySem.W.Frag} {H : Hp} {vs : List V} {Q : VK} {E : XK} {N : List Str} (h : sp_ltwo K vs H Q E) (hN : N.length = 5 := by rfl) : t_ltwo K { nx := fun _ H' => Q .non H', rt := Q } (start N vs) H := by
  have h : spI K cx0 (oL3 rScr rI rI) (aCons (ir rI) (aOne (ir rI))) (fz (rTZ (rz (oT rI)))) (fun (s : ((List Int) × Int × Int)) (a : Int × Int) => (M_ltwo (some s, some a.1, some a.2, none, none, ())).runI l_ltwo_0 none) vs H Q E := h
  refine d_I (dn := none) (ra := (aCons (ir rI) (aOne (ir rI)))) (e0 := fun (s : ((List Int) × Int × Int)) (a : Int × Int) => (some s, some a.1, some a.2, none, none, ())) (sx_ltwo) a_ltwo_0 ?_ ?_ h
  · intro G H p ho st ws a k1 k2 k3 s hr
    obtain ⟨v1, _, rfl, h1, ⟨v2, rfl, h2⟩⟩ := hr
    rw [show start N [.ref p, v1, v2] = [some (.ref p), some v1, some v2, none, none] by simp [L2.start, hN]]
    exact e_io k1 k2 k3 rfl ⟨rfl, rfl⟩ (e_fr h1 (e_fr h2 (e_frN (e_frN e_nil))))
  · intro b h; cases h
abbrev E_lrings : Type := Option ((List Int) × Int × Int) × Option (List Int) × Option (List Int) × Option (List (List (List Int))) × Option Int × Option Int × Option (List (Int × Int)) × Option (List (List Int)) × Option (List (List Int)) × Option Int × Option Int × Option Int × Option (List (List Int)) × Option (List Int) × Unit
def R_lrings : ERep E_lrings := (eIo 0 (oL3 rScr rI rI) (eFr (rz (oL rI)) (eFr (rz (oL rI)) (eOw (oL (rz (oL (rz (oT rI))))) (eFr rI (eFr rI (eFr (rz (oL (rz (oT2 rI rI)))) (eFr (rTZ (rz (oT rI))) (eFr (rz (oL (rz (oL rI)))) (eFr rI (eFr rI (eFr rI (eFr (rz (oL (rz (oT rI)))) (eFr (rz (oT rI)) eNil))))))))))))))
abbrev l_lrings_0 : Ln E_lrings ((List Int) × Int × Int) := Ln.z
theorem a_lrings_0 : OwAt R_lrings 0 (ownI 0) (oL3 rScr rI rI) l_lrings_0 := OwAt.z
abbrev l_lrings_1 : Ln E_lrings (List Int) := (Ln.s Ln.z)
theorem a_lrings_1 : FrAt R_lrings 1 (rz (oL rI)) l_lrings_1 := (FrAt.sO FrAt.z)
abbrev l_lrings_2 : Ln E_lrings (List Int) := (Ln.s (Ln.s Ln.z))
theorem a_lrings_2 : FrAt R_lrings 2 (rz (oL rI)) l_lrings_2 := (FrAt.sO (FrAt.sF FrAt.z))
abbrev l_lrings_3 : Ln E_lrings (List (List (List Int))) := (Ln.s (Ln.s (Ln.s Ln.z)))
theorem a_lrings_3 : OwAt R_lrings 3 ownN (oL (rz (oL (rz (oT rI))))) l_lrings_3 := (OwAt.sO (OwAt.sF (OwAt.sF OwAt.z)))
abbrev l_lrings_4 : Ln E_lrings Int := (Ln.s (Ln.s (Ln.s (Ln.s Ln.z))))
theorem a_lrings_4 : FrAt R_lrings 4 rI l_lrings_4 := (FrAt.sO (FrAt.sF (FrAt.sF (FrAt.sO FrAt.z))))
abbrev l_lrings_5 : Ln E_lrings Int := (Ln.s (Ln.s (Ln.s (Ln.s (Ln.s Ln.z)))))
theorem a_lrings_5 : FrAt R_lrings 5 rI l_lrings_5 := (FrAt.sO (FrAt.sF (FrAt.sF (FrAt.sO (FrAt.sF FrAt.z)))))
abbrev l_lrings_6 : Ln E_lrings (List (Int × Int)) := (Ln.s (Ln.s (Ln.s (Ln.s (Ln.s (Ln.s Ln.z))))))
theorem a_lrings_6 : FrAt R_lrings 6 (rz (oL (rz (oT2 rI rI)))) l_lrings_6 := (FrAt.sO (FrAt.sF (FrAt.sF (FrAt.sO (FrAt.sF (FrAt.sF FrAt.z))))))
abbrev l_lrings_7 : Ln E_lrings (List (List Int)) := (Ln.s (Ln.s (Ln.s (Ln.s (Ln.s (Ln.s (Ln.s Ln.z)))))))
theorem a_lrings_7 : FrAt R_lrings 7 (rTZ (rz (oT rI))) l_lrings_7 := (FrAt.sO (FrAt.sF (FrAt.sF (FrAt.sO (FrAt.sF (FrAt.sF (FrAt.sF FrAt.z)))))))
abbrev l_lrings_8 : Ln E_lrings (List (List Int)) := (Ln.s (Ln.s (Ln.s (Ln.s (Ln.s (Ln.s (Ln.s (Ln.s Ln.z))))))))
theorem a_lrings_8 : FrAt R_lrings 8 (rz (oL (rz (oL rI)))) l_lrings_8 := (FrAt.sO (FrAt.sF (FrAt.sF (FrAt.sO (FrAt.sF (FrAt.sF (FrAt.sF (FrAt.sF FrAt.z))))))))
abbrev l_lrings_9 : Ln E_lrings Int := (Ln.s (Ln.s (Ln.s (Ln.s (Ln.s (Ln.s (Ln.s (Ln.s (Ln.s Ln.z)))))))))
theorem a_lrings_9 : FrAt R_lrings 9 rI l_lrings_9 := (FrAt.sO (FrAt.sF (FrAt.sF (FrAt.sO (FrAt.sF (FrAt.sF (FrAt.sF (FrAt.sF (FrAt.sF FrAt.z)))))))))
abbrev l_lrings_10 : Ln E_lrings Int := (Ln.s (Ln.s (Ln.s (Ln.s (Ln.s (Ln.s (Ln.s (Ln.s (Ln.s (Ln.s Ln.z))))))))))
theorem a_lrings_10 : FrAt R_lrings 10 rI l_lrings_10 := (FrAt.sO (FrAt.sF (FrAt.sF (FrAt.sO (FrAt.sF (FrAt.sF (FrAt.sF (FrAt.sF (FrAt.sF (FrAt.sF FrAt.z))))))))))
abbrev l_lrings_11 : Ln E_lrings Int := (Ln.s (Ln.s (Ln.s (Ln.s (Ln.s (Ln.s (Ln.s (Ln.s (Ln.s (Ln.s (Ln.s Ln.z)))))))))))
theorem a_lrings_11 : FrAt R_lrings 11 rI l_lrings_11 := (FrAt.sO (FrAt.sF (FrAt.sF (FrAt.sO (FrAt.sF (FrAt.sF (FrAt.sF (FrAt.sF (FrAt.sF (FrAt.sF (FrAt.sF FrAt.z)))))))))))
abbrev l_lrings_12 : Ln E_lrings (List (List Int)) := (Ln.s (Ln.s (Ln.s (Ln.s (Ln.s (Ln.s (Ln.s (Ln.s (Ln.s (Ln.s (Ln.s (Ln.s Ln.z))))))))))))
abbrev l_lrings_13 : Ln E_lrings (List Int) := (Ln.s (Ln.s (Ln.s (Ln.s (Ln.s (Ln.s (Ln.s (Ln.s (Ln.s (Ln.s (Ln.s (Ln.s (Ln.s Ln.z)))))))))))))
def M_lrings : E_lrings → So E_lrings ((List (List Int)) × (List (List Int))) :=
    (mSeq (mSet l_lrings_1 (mUn szOk (mCons (mOp gAdd (mC (3 : Int)) (mCallI l_lrings_0 (fun s p => m_ldraw s p) (mC (3 : Int)))) (mCons (mOp gAdd (mC (3 : Int)) (mCallI l_lrings_0 (fun s p => m_ldraw s p) (mC (3 : Int)))) (mC [])))))
    (mSeq (mSet l_lrings_2 (mCallI l_lrings_0 (fun s p => m_lcorners s p) (mOp gAdd (mOp gIx (mVar l_lrings_1) (mC (0 : Int))) (mOp gIx (mVar l_lrings_1) (mC (1 : Int))))))
    (mSeq (mSet l_lrings_3 (mUn szOk (mC ([] : List (List (List Int))))))
    (mCut (mKill (fun e => (Ln.put l_lrings_4 none (Ln.put l_lrings_5 none (Ln.put l_lrings_6 none e)))) (mFor (mUn szOk (mCons (mUn some (mPair (mC (0 : Int)) (mOp gIx (mVar l_lrings_1) (mC (0 : Int))))) (mCons (mUn some (mPair (mOp gIx (mVar l_lrings_1) (mC (0 : Int))) (mOp gIx (mVar l_lrings_1) (mC (1 : Int))))) (mC [])))) (p2 (pN l_lrings_4) (pN l_lrings_5))
    (mKill (fun e => (Ln.put l_lrings_4 none (Ln.put l_lrings_5 none (Ln.put l_lrings_6 none e)))) (mSeq (mSet l_lrings_6 (mLc (mRng1 (mVar l_lrings_5)) (pN l_lrings_9) mYes (mUn some (mPair (mOp gIx (mVar l_lrings_2) (mOp gAdd (mVar l_lrings_4) (mVar l_lrings_9))) (mOp gIx (mVar l_lrings_2) (mOp gAdd (mVar l_lrings_4) (mOp gMod (mOp gAdd (mVar l_lrings_9) (mC (1 : Int))) (mVar l_lrings_5)))))) (fun e => Ln.put l_lrings_9 none (id e)) (fun e e1 => (fun _ e1 => e1) e (Ln.put l_lrings_9 (Ln.get l_lrings_9 (id e)) e1))))
    (mDrop (mBM l_lrings_3 gApp (mLc (mVar l_lrings_6) (p2 (pN l_lrings_10) (pN l_lrings_11)) mYes (mUn szOk (mCons (mUn gMin2 (mPair (mVar l_lrings_10) (mVar l_lrings_11))) (mCons (mUn gMax2 (mPair (mVar l_lrings_10) (mVar l_lrings_11))) (mC [])))) (fun e => Ln.put l_lrings_10 none ((fun e => Ln.put l_lrings_11 none (id e)) e)) (fun e e1 => (fun e e1 => (fun _ e1 => e1) e (Ln.put l_lrings_11 (Ln.get l_lrings_11 (id e)) e1)) e (Ln.put l_lrings_10 (Ln.get l_lrings_10 ((fun e => Ln.put l_lrings_11 none (id e)) e)) e1)))))))))
    (mSeq (mSet l_lrings_7 (mUn gId (mCallI l_lrings_0 (fun s p => m_lpicked_t s (p.1) (p.2)) (mPair (mOp gCat (mOpL gIx l_lrings_3 (mC (0 : Int))) (mOpL gIx l_lrings_3 (mC (1 : Int)))) (mOp gAdd (mUn gLen (mOpL gIx l_lrings_3 (mC (0 : Int)))) (mUn gLen (mOpL gIx l_lrings_3 (mC (1 : Int)))))))))
    (mSeq (mSet l_lrings_8 (mLock l_lrings_3 (mLc (mVar l_lrings_3) (pN l_lrings_12) mYes (mUn gSort (mLc (mVar l_lrings_12) (pN l_lrings_13) mYes (mOp gIdxT (mVar l_lrings_7) (mVar l_lrings_13)) (fun e => Ln.put l_lrings_13 none (id e)) (fun e e1 => (fun _ e1 => e1) e (Ln.put l_lrings_13 (Ln.get l_lrings_13 (id e)) e1)))) (fun e => Ln.put l_lrings_12 none (id e)) (fun e e1 => (fun _ e1 => e1) e (Ln.put l_lrings_12 (Ln.get l_lrings_12 (id e)) e1)))))
    (mRet (mUn some (mPair (mVar l_lrings_7) (mUn gSortLL (mVar l_lrings_8)))))))))))
def m_lrings (x0 : ((List Int) × Int × Int)) : Rs ((List Int) × Int × Int) ((List (List Int)) × (List (List Int))) := (M_lrings (some x0, none, none, none, none, none, none, none, none, none, none, none, none, none, ())).runI l_lrings_0 none
abbrev u_lrings (s : ((List Int) × Int × Int)) (p : Unit) : Rs ((List Int) × Int × Int) ((List (List Int)) × (List (List Int))) := m_lrings s
def sp_lrings (K : PySem.W.Frag) : Sp := spI K cx0 (oL3 rScr rI rI) aNil (fz (rz (oT2 (rTZ (rz (oT rI))) (rz (oL (rz (oL rI))))))) u_lrings
theorem len_lrings (K : PySem.W.Frag) : ∀ vs H Q E, sp_lrings K vs H Q E → vs.length = 1 := len_I ALen.nil
def t_lrings (K : PySem.W.Frag) : TS :=
    (tSeq (tAsg (tLst (tCons (tOp rAdd (tC (.int 3)) (tCall (sp_ldraw K) [] E0 (tCons (tVar 0) (tCons (tC (.int 3)) tNil)))) (tCons (tOp rAdd (tC (.int 3)) (tCall (sp_ldraw K) [] E0 (tCons (tVar 0) (tCons (tC (.int 3)) tNil)))) tNil))) (gName 1))
    (tSeq (tAsg (tCall (sp_lcorners K) [] E0 (tCons (tVar 0) (tCons (tOp rAdd (tOp (rIxL K) (tVar 1) (tC (.int 0))) (tOp (rIxL K) (tVar 1) (tC (.int 1)))) tNil))) (gName 2))
    (tSeq (tAsg (tLst tNil) (gName 3))
    (tSeq (tFor (iTup K (tTup (tCons (tTup (tCons (tC (.int 0)) (tCons (tOp (rIxL K) (tVar 1) (tC (.int 0))) tNil))) (tCons (tTup (tCons (tOp (rIxL K) (tVar 1) (tC (.int 0))) (tCons (tOp (rIxL K) (tVar 1) (tC (.int 1))) tNil))) tNil)))) (gTup K 2 (gCons (gName 4) (gCons (gName 5) gNil)))
    (tSeq (tAsg (tLc (iRng1 (tCons (tVar 5) tNil)) (gName 9) tYes (tTup (tCons (tOp (rIxL K) (tVar 2) (tOp rAdd (tVar 4) (tVar 9))) (tCons (tOp (rIxL K) (tVar 2) (tOp rAdd (tVar 4) (tOp rMod (tOp rAdd (tVar 9) (tC (.int 1))) (tVar 5)))) tNil))) [9]) (gName 6))
    (tDrop (tBM K "list" rAppend (tVar 3) (tCons (tLc (iList K (tVar 6)) (gTup K 2 (gCons (gName 10) (gCons (gName 11) gNil))) tYes (tTup (tCons (tCB rMin2 (tCons (tVar 10) (tCons (tVar 11) tNil))) (tCons (tCB rMax2' (tCons (tVar 10) (tCons (tVar 11) tNil))) tNil))) [10, 11]) tNil)))))
    (tSeq (tAsg (tCB (rTupZ K) (tCons (tCall (sp_lpicked_t K) [] E0 (tCons (tVar 0) (tCons (tOp rCat (tOp (rIxL K) (tVar 3) (tC (.int 0))) (tOp (rIxL K) (tVar 3) (tC (.int 1)))) (tCons (tOp rAdd (tCB (rLenL K) (tCons (tOp (rIxL K) (tVar 3) (tC (.int 0))) tNil)) (tCB (rLenL K) (tCons (tOp (rIxL K) (tVar 3) (tC (.int 1))) tNil))) tNil)))) tNil)) (gName 7))
    (tSeq (tAsg (tLc (iList K (tVar 3)) (gName 12) tYes (tCB (rSortedI K) (tCons (tLc (iList K (tVar 12)) (gName 13) tYes (tTIdx K (tVar 7) (tCons (tVar 13) tNil)) [13]) tNil)) [12]) (gName 8))
    (tRet (tTup (tCons (tVar 7) (tCons (tCB (rSortD K) (tCons (tVar 8) tNil)) tNil))))))))))
theorem sx_lrings {K : PySem.W.Frag} : SX ⟨K, E0, cx0⟩ R_lrings (fz (rz (oT2 (rTZ (rz (oT rI))) (rz (oL (rz (oL rI))))))) (t_lrings K) M_lrings :=
    (s_seq (s_set a_lrings_1 (x_fz (x_lst (x_lcons (x_tOp v_add Cv.id (x_c fun _ => rfl) (x_is Cv.id (x_callI a_lrings_0 ownI_q (x_pone Cv.id (x_c fun _ => rfl))))) (x_lcons (x_tOp v_add Cv.id (x_c fun _ => rfl) (x_is Cv.id (x_callI a_lrings_0 ownI_q (x_pone Cv.id (x_c fun _ => rfl))))) x_lnil)))))
    (s_seq (s_set a_lrings_2 (x_callI a_lrings_0 ownI_q (x_pone Cv.id (x_tOp v_add Cv.id (x_tOp v_ixL Cv.ob (x_var a_lrings_1) (x_is Cv.id (x_c fun _ => rfl))) (x_is Cv.id (x_tOp v_ixL Cv.ob (x_var a_lrings_1) (x_is Cv.id (x_c fun _ => rfl))))))))
    (s_seq (s_setO a_lrings_3 (x_lst (x_lnil (r := (rz (oL (rz (oT rI))))))))
    (s_seqC (s_kill (Kl.and (Kl.fr a_lrings_4) (Kl.and (Kl.fr a_lrings_5) (Kl.fr a_lrings_6))) (s_for (vs := [4, 5]) (x_iT (x_tup (x_lcons (x_tup2 (x_p2 (x_c fun _ => rfl) (x_tOp v_ixL Cv.ob (x_var a_lrings_1) (x_is Cv.id (x_c fun _ => rfl))))) (x_lcons (x_tup2 (x_p2 (x_tOp v_ixL Cv.ob (x_var a_lrings_1) (x_is Cv.id (x_c fun _ => rfl))) (x_tOp v_ixL Cv.ob (x_var a_lrings_1) (x_is Cv.id (x_c fun _ => rfl))))) x_lnil)))) (n_tup2 (n_name a_lrings_4 (by decide)) (n_name a_lrings_5 (by decide)))
    (s_kill (Kl.and (Kl.fr a_lrings_4) (Kl.and (Kl.fr a_lrings_5) (Kl.fr a_lrings_6))) (s_seq (s_set a_lrings_6 (x_fz (x_lc (x_rng1 (x_aone (x_is Cv.id (x_var a_lrings_5)))) (Wp.cons a_lrings_9 Wp.nil) (n_name a_lrings_9 (by decide)) x_yes (x_tup2 (x_p2 (x_tOp v_ixL Cv.ob (x_var a_lrings_2) (x_is Cv.id (x_tOp v_add Cv.id (x_var a_lrings_4) (x_is Cv.id (x_var a_lrings_9))))) (x_tOp v_ixL Cv.ob (x_var a_lrings_2) (x_is Cv.id (x_tOp v_add Cv.id (x_var a_lrings_4) (x_is Cv.id (x_tOp v_mod Cv.id (x_tOp v_add Cv.id (x_var a_lrings_9) (x_is Cv.id (x_c fun _ => rfl))) (x_is Cv.id (x_var a_lrings_5))))))))))))
    (s_drop (x_bm v_app ty_L nt_L ownN_q a_lrings_3 (x_gone (x_fz (x_lc (x_iL (x_var a_lrings_6)) (Wp.cons a_lrings_10 (Wp.cons a_lrings_11 Wp.nil)) (n_tup2 (n_name a_lrings_10 (by decide)) (n_name a_lrings_11 (by decide))) x_yes (x_tup (x_lcons (x_tCB v_min2 (x_acons Cv.id (x_var a_lrings_10) (x_aone (x_is Cv.id (x_var a_lrings_11))))) (x_lcons (x_tCB v_max2 (x_acons Cv.id (x_var a_lrings_10) (x_aone (x_is Cv.id (x_var a_lrings_11))))) x_lnil))))))))))))
    (s_seq (s_set a_lrings_7 (x_tCB v_tupZ (x_aone (x_is Cv.ob (x_fz (x_callIF a_lrings_0 ownI_q (x_pcons Cv.ob (x_fz (x_tOpF v_cat Cv.ob (x_tOpL v_ixL (Late.ow a_lrings_3) (x_is Cv.id (x_c fun _ => rfl))) (x_is Cv.ob (x_tOpL v_ixL (Late.ow a_lrings_3) (x_is Cv.id (x_c fun _ => rfl)))))) (x_pone Cv.id (x_tOp v_add Cv.id (x_tCB v_lenL (x_aone (x_is Cv.ob (x_tOpL v_ixL (Late.ow a_lrings_3) (x_is Cv.id (x_c fun _ => rfl)))))) (x_is Cv.id (x_tCB v_lenL (x_aone (x_is Cv.ob (x_tOpL v_ixL (Late.ow a_lrings_3) (x_is Cv.id (x_c fun _ => rfl))))))))))))))))
    (s_seq (s_set a_lrings_8 (x_fz (x_prot ownN_q a_lrings_3 (Sw.sO (Sw.sF (Sw.sF (Sw.z (LkR.fr (LkR.fr (LkR.fr (LkR.fr (LkR.fr (LkR.fr (LkR.fr (LkR.fr (LkR.fr (LkR.fr LkR.nil)))))))))))))) (x_lc (x_iLP (PrAt.sO (PrAt.sF (PrAt.sF PrAt.z)))) (Wp.cons (FrAt.sO (FrAt.sF (FrAt.sF (FrAt.sP (FrAt.sF (FrAt.sF (FrAt.sF (FrAt.sF (FrAt.sF (FrAt.sF (FrAt.sF (FrAt.sF FrAt.z)))))))))))) Wp.nil) (n_name (FrAt.sO (FrAt.sF (FrAt.sF (FrAt.sP (FrAt.sF (FrAt.sF (FrAt.sF (FrAt.sF (FrAt.sF (FrAt.sF (FrAt.sF (FrAt.sF FrAt.z)))))))))))) (by decide)) x_yes (x_fz (x_tCBF v_sortL (x_aone (x_is Cv.ob (x_fz (x_lc (x_iL (x_var (FrAt.sO (FrAt.sF (FrAt.sF (FrAt.sP (FrAt.sF (FrAt.sF (FrAt.sF (FrAt.sF (FrAt.sF (FrAt.sF (FrAt.sF (FrAt.sF FrAt.z)))))))))))))) (Wp.cons (FrAt.sO (FrAt.sF (FrAt.sF (FrAt.sP (FrAt.sF (FrAt.sF (FrAt.sF (FrAt.sF (FrAt.sF (FrAt.sF (FrAt.sF (FrAt.sF (FrAt.sF FrAt.z))))))))))))) Wp.nil) (n_name (FrAt.sO (FrAt.sF (FrAt.sF (FrAt.sP (FrAt.sF (FrAt.sF (FrAt.sF (FrAt.sF (FrAt.sF (FrAt.sF (FrAt.sF (FrAt.sF (FrAt.sF FrAt.z))))))))))))) (by decide)) x_yes (x_idxT (da_T da_I) (eq_T eq_I) (by decide) (x_var (FrAt.sO (FrAt.sF (FrAt.sF (FrAt.sP (FrAt.sF (FrAt.sF (FrAt.sF FrAt.z)))))))) (x_gone (x_var (FrAt.sO (FrAt.sF (FrAt.sF (FrAt.sP (FrAt.sF (FrAt.sF (FrAt.sF (FrAt.sF (FrAt.sF (FrAt.sF (FrAt.sF (FrAt.sF (FrAt.sF FrAt.z))))))))))))))))))))))))))
    (s_ret (x_tup2 (x_p2 (x_var a_lrings_7) (x_fz (x_tCBF v_sortLL (x_aone (x_is Cv.ob (x_var a_lrings_8))))))))))))))
theorem rd_lrings {K : PySem.W.Frag} {H : Hp} {vs : List V} {Q : VK} {E : XK} {N : List Str} (h : sp_lrings K vs H Q E) (hN : N.length = 14 := by rfl) : t_lrings K { nx := fun _ H' => Q .non H', rt := Q } (start N vs) H := by
  have h : spI K cx0 (oL3 rScr rI rI) aNil (fz (rz (oT2 (rTZ (rz (oT rI))) (rz (oL (rz (oL rI))))))) (fun (s : ((List Int) × Int × Int)) (a : Unit) => (M_lrings (some s, none, none, none, none, none, none, none, none, none, none, none, none, none, ())).runI l_lrings_0 none) vs H Q E := h
  refine d_I (dn := none) (ra := aNil) (e0 := fun (s : ((List Int) × Int × Int)) (a : Unit) => (some s, none, none, none, none, none, none, none, none, none, none, none, none, none, ())) (sx_lrings) a_lrings_0 ?_ ?_ h
  · intro G H p ho st ws a k1 k2 k3 s hr
    obtain rfl := hr
    rw [show start N [.ref p] = [some (.ref p), none, none, none, none, none, none, none, none, none, none, none, none, none] by simp [L2.start, hN]]
    exact e_io k1 k2 k3 rfl ⟨rfl, rfl⟩ (e_frN (e_frN (e_owN (e_frN (e_frN (e_frN (e_frN (e_frN (e_frN (e_frN (e_frN (e_frN (e_frN e_nil)))))))))))))
  · intro b h; cases h
abbrev E_lsimple : Type := Option ((List Int) × Int × Int) × Option Int × Option Int × Option (List (List Int)) × Option (List Int) × Option (List ((List Int) × Th)) × Option (List Th) × Option Int × Unit
def R_lsimple : ERep E_lsimple := (eIo 0 (oL3 rScr rI rI) (eFr rI (eFr rI (eFr (rTZ (rz (oT rI))) (eFr (rz (oT rI)) (eFr (rz (oL (rz (oT2 (rz (oT rI)) rTh)))) (eFr (rz (oL rTh)) (eFr rI eNil))))))))
abbrev l_lsimple_0 : Ln E_lsimple ((List Int) × Int × Int) := Ln.z
theorem a_lsimple_0 : OwAt R_lsimple 0 (ownI 0) (oL3 rScr rI rI) l_lsimple_0 := OwAt.z
abbrev l_lsimple_1 : Ln E_lsimple Int := (Ln.s Ln.z)
theorem a_lsimple_1 : FrAt R_lsimple 1 rI l_lsimple_1 := (FrAt.sO FrAt.z)
abbrev l_lsimple_2 : Ln E_lsimple Int := (Ln.s (Ln.s Ln.z))
theorem a_lsimple_2 : FrAt R_lsimple 2 rI l_lsimple_2 := (FrAt.sO (FrAt.sF FrAt.z))
abbrev l_lsimple_3 : Ln E_lsimple (List (List Int)) := (Ln.s (Ln.s (Ln.s Ln.z)))
theorem a_lsimple_3 : FrAt R_lsimple 3 (rTZ (rz (oT rI))) l_lsimple_3 := (FrAt.sO (FrAt.sF (FrAt.sF FrAt.z)))
abbrev l_lsimple_4 : Ln E_lsimple (List Int) := (Ln.s (Ln.s (Ln.s (Ln.s Ln.z))))
theorem a_lsimple_4 : FrAt R_lsimple 4 (rz (oT rI)) l_lsimple_4 := (FrAt.sO (FrAt.sF (FrAt.sF (FrAt.sF FrAt.z))))
abbrev l_lsimple_5 : Ln E_lsimple (List ((List Int) × Th)) := (Ln.s (Ln.s (Ln.s (Ln.s (Ln.s Ln.z)))))
theorem a_lsimple_5 : FrAt R_lsimple 5 (rz (oL (rz (oT2 (rz (oT rI)) rTh)))) l_lsimple_5 := (FrAt.sO (FrAt.sF (FrAt.sF (FrAt.sF (FrAt.sF FrAt.z)))))
abbrev l_lsimple_6 : Ln E_lsimple (List Th) := (Ln.s (Ln.s (Ln.s (Ln.s (Ln.s (Ln.s Ln.z))))))
theorem a_lsimple_6 : FrAt R_lsimple 6 (rz (oL rTh)) l_lsimple_6 := (FrAt.sO (FrAt.sF (FrAt.sF (FrAt.sF (FrAt.sF (FrAt.sF FrAt.z))))))
abbrev l_lsimple_7 : Ln E_lsimple Int := (Ln.s (Ln.s (Ln.s (Ln.s (Ln.s (Ln.s (Ln.s Ln.z)))))))
theorem a_lsimple_7 : FrAt R_lsimple 7 rI l_lsimple_7 := (FrAt.sO (FrAt.sF (FrAt.sF (FrAt.sF (FrAt.sF (FrAt.sF (FrAt.sF FrAt.z)))))))
def M_lsimple : E_lsimple → So E_lsimple ((List (List Int)) × Th) :=
    (mSeq (mSet l_lsimple_2 (mOp gMul (mUn gIntB (mOp gGt (mVar l_lsimple_1) (mC (2 : Int)))) (mCallI l_lsimple_0 (fun s p => m_ldraw s p) (mC (2 : Int)))))
    (mSeq (mSet l_lsimple_3 (mCallI l_lsimple_0 (fun s p => m_ltwo s (p.1) (p.2)) (mPair (mVar l_lsimple_1) (mVar l_lsimple_2))))
    (mSeq (mSet l_lsimple_4 (mUn gId (mLc (mOp gIx (mVar l_lsimple_3) (mC (0 : Int))) (pN l_lsimple_7) (mOp gIn (mVar l_lsimple_7) (mOp gIx (mVar l_lsimple_3) (mC (1 : Int)))) (mVar l_lsimple_7) (fun e => Ln.put l_lsimple_7 none (id e)) (fun e e1 => (fun _ e1 => e1) e (Ln.put l_lsimple_7 (Ln.get l_lsimple_7 (id e)) e1)))))
    (mSeq (mSet l_lsimple_5 (mUn szOk (mCons (mUn some (mPair (mUn szOk (mC ([] : List Int))) (mUn (toTh (fun _ => Th.non)) (mC ())))) (mCons (mUn some (mPair (mUn szOk (mCons (mC (0 : Int)) (mC []))) (mUn (toTh (fun xs => Th.tup (List.map (fun t => t) xs))) (mUn szOk (mCons (mUn (toTh Th.int) (mC (1 : Int))) (mCons (mUn (toTh (fun xs => Th.tup (List.map Th.int xs))) (mVar l_lsimple_4)) (mC []))))))) (mCons (mUn some (mPair (mUn szOk (mCons (mC (1 : Int)) (mC []))) (mUn (toTh (fun xs => Th.tup (List.map (fun t => t) xs))) (mUn szOk (mCons (mUn (toTh Th.int) (mC (0 : Int))) (mCons (mUn (toTh (fun xs => Th.tup (List.map Th.int xs))) (mVar l_lsimple_4)) (mC []))))))) (mC []))))))
    (mSeq (mSet l_lsimple_6 (mUn szOk (mCons (mUn (toTh (fun xs => Th.tup (List.map (fun t => t) xs))) (mUn szOk (mCons (mUn (toTh Th.str) (mC ("apart" : Str))) (mCons (mUn (toTh (fun xs => Th.lst (List.map (fun t => t) xs))) (mUn szOk (mCons (mUn (toTh Th.int) (mCallI l_lsimple_0 (fun s p => m_ldraw s p) (mC (2 : Int)))) (mC [])))) (mC []))))) (mCons (mUn (toTh (fun xs => Th.tup (List.map (fun t => t) xs))) (mUn szOk (mCons (mUn (toTh Th.str) (mC ("sets" : Str))) (mCons (mUn (toTh (fun xs => Th.lst (List.map (fun p => Th.tup [(fun xs => Th.tup (List.map Th.int xs)) p.1, (fun t => t) p.2]) xs))) (mCallI l_lsimple_0 (fun s p => m_lpicked_r s (p.1) (p.2)) (mPair (mVar l_lsimple_5) (mC (3 : Int))))) (mC []))))) (mCons (mUn (toTh (fun xs => Th.tup (List.map (fun t => t) xs))) (mUn szOk (mCons (mUn (toTh Th.str) (mC ("counts" : Str))) (mCons (mUn (toTh Th.int) (mC (2 : Int))) (mC []))))) (mC []))))))
    (mRet (mUn some (mPair (mVar l_lsimple_3) (mOp gIx (mVar l_lsimple_6) (mCallI l_lsimple_0 (fun s p => m_ldraw s p) (mOp gSubI (mC (3 : Int)) (mVar l_lsimple_2))))))))))))
def m_lsimple (x0 : ((List Int) × Int × Int)) (x1 : Int) : Rs ((List Int) × Int × Int) ((List (List Int)) × Th) := (M_lsimple (some x0, some x1, none, none, none, none, none, none, ())).runI l_lsimple_0 none
abbrev u_lsimple (s : ((List Int) × Int × Int)) (p : Int) : Rs ((List Int) × Int × Int) ((List (List Int)) × Th) := m_lsimple s p
def sp_lsimple (K : PySem.W.Frag) : Sp := spI K cx0 (oL3 rScr rI rI) (aOne (ir rI)) (fz (rz (oT2 (rTZ (rz (oT rI))) rTh))) u_lsimple
theorem len_lsimple (K : PySem.W.Frag) : ∀ vs H Q E, sp_lsimple K vs H Q E → vs.length = 2 := len_I ALen.one
def t_lsimple (K : PySem.W.Frag) : TS :=
    (tSeq (tAsg (tOp rMul (tCB rIntB (tCons (tOp rGt (tVar 1) (tC (.int 2))) tNil)) (tCall (sp_ldraw K) [] E0 (tCons (tVar 0) (tCons (tC (.int 2)) tNil)))) (gName 2))
    (tSeq (tAsg (tCall (sp_ltwo K) [] E0 (tCons (tVar 0) (tCons (tVar 1) (tCons (tVar 2) tNil)))) (gName 3))
    (tSeq (tAsg (tCB (rTupOf K) (tCons (tLc (iTup K (tOp (rIxT K) (tVar 3) (tC (.int 0)))) (gName 7) (tTest (tOp (rIn K false) (tVar 7) (tOp (rIxT K) (tVar 3) (tC (.int 1))))) (tVar 7) [7]) tNil)) (gName 4))
    (tSeq (tAsg (tLst (tCons (tTup (tCons (tTup tNil) (tCons (tC .non) tNil))) (tCons (tTup (tCons (tTup (tCons (tC (.int 0)) tNil)) (tCons (tTup (tCons (tC (.int 1)) (tCons (tVar 4) tNil))) tNil))) (tCons (tTup (tCons (tTup (tCons (tC (.int 1)) tNil)) (tCons (tTup (tCons (tC (.int 0)) (tCons (tVar 4) tNil))) tNil))) tNil)))) (gName 5))
    (tSeq (tAsg (tLst (tCons (tTup (tCons (tC (.str "apart")) (tCons (tLst (tCons (tCall (sp_ldraw K) [] E0 (tCons (tVar 0) (tCons (tC (.int 2)) tNil))) tNil)) tNil))) (tCons (tTup (tCons (tC (.str "sets")) (tCons (tCall (sp_lpicked_r K) [] E0 (tCons (tVar 0) (tCons (tVar 5) (tCons (tC (.int 3)) tNil)))) tNil))) (tCons (tTup (tCons (tC (.str "counts")) (tCons (tC (.int 2)) tNil))) tNil)))) (gName 6))
    (tRet (tTup (tCons (tVar 3) (tCons (tOp (rIxL K) (tVar 6) (tCall (sp_ldraw K) [] E0 (tCons (tVar 0) (tCons (tOp rSub (tC (.int 3)) (tVar 2)) tNil)))) tNil)))))))))
theorem sx_lsimple {K : PySem.W.Frag} : SX ⟨K, E0, cx0⟩ R_lsimple (fz (rz (oT2 (rTZ (rz (oT rI))) rTh))) (t_lsimple K) M_lsimple :=
    (s_seq (s_set a_lsimple_2 (x_tOp v_mul Cv.id (x_tCB v_intB (x_aone (x_is Cv.id (x_tOp v_gt Cv.id (x_var a_lsimple_1) (x_is Cv.id (x_c fun _ => rfl)))))) (x_is Cv.id (x_callI a_lsimple_0 ownI_q (x_pone Cv.id (x_c fun _ => rfl))))))
    (s_seq (s_set a_lsimple_3 (x_callI a_lsimple_0 ownI_q (x_pcons Cv.id (x_var a_lsimple_1) (x_pone Cv.id (x_var a_lsimple_2)))))
    (s_seq (s_set a_lsimple_4 (x_tCB v_tupOfL (x_aone (x_is Cv.ob (x_fz (x_lc (x_iT (x_tOp v_ixTZ Cv.id (x_var a_lsimple_3) (x_is Cv.id (x_c fun _ => rfl)))) (Wp.cons a_lsimple_7 Wp.nil) (n_name a_lsimple_7 (by decide)) (x_test (x_tOp v_inTI Cv.id (x_var a_lsimple_7) (x_is Cv.ob (x_tOp v_ixTZ Cv.id (x_var a_lsimple_3) (x_is Cv.id (x_c fun _ => rfl)))))) (x_var a_lsimple_7)))))))
    (s_seq (s_set a_lsimple_5 (x_fz (x_lst (x_lcons (x_tup2 (x_p2 (x_tup (x_lnil (r := rI))) (x_cast ci_N (x_c fun _ => rfl)))) (x_lcons (x_tup2 (x_p2 (x_tup (x_lcons (x_c fun _ => rfl) x_lnil)) (x_cast (ci_T ci_id) (x_tup (x_lcons (x_cast ci_I (x_c fun _ => rfl)) (x_lcons (x_cast (ci_T ci_I) (x_var a_lsimple_4)) x_lnil)))))) (x_lcons (x_tup2 (x_p2 (x_tup (x_lcons (x_c fun _ => rfl) x_lnil)) (x_cast (ci_T ci_id) (x_tup (x_lcons (x_cast ci_I (x_c fun _ => rfl)) (x_lcons (x_cast (ci_T ci_I) (x_var a_lsimple_4)) x_lnil)))))) x_lnil))))))
    (s_seq (s_set a_lsimple_6 (x_fz (x_lst (x_lcons (x_cast (ci_T ci_id) (x_tup (x_lcons (x_cast ci_S (x_c fun _ => rfl)) (x_lcons (x_cast (ci_L ci_id) (x_fz (x_lst (x_lcons (x_cast ci_I (x_callI a_lsimple_0 ownI_q (x_pone Cv.id (x_c fun _ => rfl)))) x_lnil)))) x_lnil)))) (x_lcons (x_cast (ci_T ci_id) (x_tup (x_lcons (x_cast ci_S (x_c fun _ => rfl)) (x_lcons (x_cast (ci_L (ci_T2 (ci_T ci_I) ci_id)) (x_fz (x_callIF a_lsimple_0 ownI_q (x_pcons Cv.ob (x_var a_lsimple_5) (x_pone Cv.id (x_c fun _ => rfl)))))) x_lnil)))) (x_lcons (x_cast (ci_T ci_id) (x_tup (x_lcons (x_cast ci_S (x_c fun _ => rfl)) (x_lcons (x_cast ci_I (x_c fun _ => rfl)) x_lnil)))) x_lnil))))))
    (s_ret (x_tup2 (x_p2 (x_var a_lsimple_3) (x_tOp v_ixL Cv.ob (x_var a_lsimple_6) (x_is Cv.id (x_callI a_lsimple_0 ownI_q (x_pone Cv.id (x_tOp v_sub Cv.id (x_c fun _ => rfl) (x_is Cv.id (x_var a_lsimple_2)))))))))))))))
theorem rd_lsimple {K : PySem.W.Frag} {H : Hp} {vs : List V} {Q : VK} {E : XK} {N : List Str} (h : sp_lsimple K vs H Q E) (hN : N.length = 8 := by rfl) : t_lsimple K { nx := fun _ H' => Q .non H', rt := Q } (start N vs) H := by
  have h : spI K cx0 (oL3 rScr rI rI) (aOne (ir rI)) (fz (rz (oT2 (rTZ (rz (oT rI))) rTh))) (fun (s : ((List Int) × Int × Int)) (a : Int) => (M_lsimple (some s, some a, none, none, none, none, none, none, ())).runI l_lsimple_0 none) vs H Q E := h
  refine d_I (dn := none) (ra := (aOne (ir rI))) (e0 := fun (s : ((List Int) × Int × Int)) (a : Int) => (some s, some a, none, none, none, none, none, none, ())) (sx_lsimple) a_lsimple_0 ?_ ?_ h
  · intro G H p ho st ws a k1 k2 k3 s hr
    obtain ⟨v1, rfl, h1⟩ := hr
    rw [show start N [.ref p, v1] = [some (.ref p), some v1, none, none, none, none, none, none] by simp [L2.start, hN]]
    exact e_io k1 k2 k3 rfl ⟨rfl, rfl⟩ (e_fr h1 (e_frN (e_frN (e_frN (e_frN (e_frN (e_frN e_nil)))))))
  · intro b h; cases h
abbrev E_lbarred : Type := Option ((List Int) × Int × Int) × Option Int × Option (List (List Int)) × Option (List (List Int)) × Option Th × Option (List Int) × Option (List Int) × Option (List (List Int)) × Option Int × Option (List Int) × Unit
def R_lbarred : ERep E_lbarred := (eIo 0 (oL3 rScr rI rI) (eFr rI (eFr (rTZ (rz (oT rI))) (eFr (rz (oL (rz (oL rI)))) (eFr rTh (eFr (rz (oL rI)) (eFr (rz (oL rI)) (eFr (rTZ (rz (oT rI))) (eFr rI (eFr (rz (oT rI)) eNil))))))))))
abbrev l_lbarred_0 : Ln E_lbarred ((List Int) × Int × Int) := Ln.z
theorem a_lbarred_0 : OwAt R_lbarred 0 (ownI 0) (oL3 rScr rI rI) l_lbarred_0 := OwAt.z
abbrev l_lbarred_1 : Ln E_lbarred Int := (Ln.s Ln.z)
theorem a_lbarred_1 : FrAt R_lbarred 1 rI l_lbarred_1 := (FrAt.sO FrAt.z)
abbrev l_lbarred_2 : Ln E_lbarred (List (List Int)) := (Ln.s (Ln.s Ln.z))
theorem a_lbarred_2 : FrAt R_lbarred 2 (rTZ (rz (oT rI))) l_lbarred_2 := (FrAt.sO (FrAt.sF FrAt.z))
abbrev l_lbarred_3 : Ln E_lbarred (List (List Int)) := (Ln.s (Ln.s (Ln.s Ln.z)))
theorem a_lbarred_3 : FrAt R_lbarred 3 (rz (oL (rz (oL rI)))) l_lbarred_3 := (FrAt.sO (FrAt.sF (FrAt.sF FrAt.z)))
abbrev l_lbarred_4 : Ln E_lbarred Th := (Ln.s (Ln.s (Ln.s (Ln.s Ln.z))))
theorem a_lbarred_4 : FrAt R_lbarred 4 rTh l_lbarred_4 := (FrAt.sO (FrAt.sF (FrAt.sF (FrAt.sF FrAt.z))))
abbrev l_lbarred_5 : Ln E_lbarred (List Int) := (Ln.s (Ln.s (Ln.s (Ln.s (Ln.s Ln.z)))))
theorem a_lbarred_5 : FrAt R_lbarred 5 (rz (oL rI)) l_lbarred_5 := (FrAt.sO (FrAt.sF (FrAt.sF (FrAt.sF (FrAt.sF FrAt.z)))))
abbrev l_lbarred_6 : Ln E_lbarred (List Int) := (Ln.s (Ln.s (Ln.s (Ln.s (Ln.s (Ln.s Ln.z))))))
theorem a_lbarred_6 : FrAt R_lbarred 6 (rz (oL rI)) l_lbarred_6 := (FrAt.sO (FrAt.sF (FrAt.sF (FrAt.sF (FrAt.sF (FrAt.sF FrAt.z))))))
abbrev l_lbarred_7 : Ln E_lbarred (List (List Int)) := (Ln.s (Ln.s (Ln.s (Ln.s (Ln.s (Ln.s (Ln.s Ln.z)))))))
theorem a_lbarred_7 : FrAt R_lbarred 7 (rTZ (rz (oT rI))) l_lbarred_7 := (FrAt.sO (FrAt.sF (FrAt.sF (FrAt.sF (FrAt.sF (FrAt.sF (FrAt.sF FrAt.z)))))))
abbrev l_lbarred_8 : Ln E_lbarred Int := (Ln.s (Ln.s (Ln.s (Ln.s (Ln.s (Ln.s (Ln.s (Ln.s Ln.z))))))))
theorem a_lbarred_8 : FrAt R_lbarred 8 rI l_lbarred_8 := (FrAt.sO (FrAt.sF (FrAt.sF (FrAt.sF (FrAt.sF (FrAt.sF (FrAt.sF (FrAt.sF FrAt.z))))))))
abbrev l_lbarred_9 : Ln E_lbarred (List Int) := (Ln.s (Ln.s (Ln.s (Ln.s (Ln.s (Ln.s (Ln.s (Ln.s (Ln.s Ln.z)))))))))
theorem a_lbarred_9 : FrAt R_lbarred 9 (rz (oT rI)) l_lbarred_9 := (FrAt.sO (FrAt.sF (FrAt.sF (FrAt.sF (FrAt.sF (FrAt.sF (FrAt.sF (FrAt.sF (FrAt.sF FrAt.z)))))))))
def M_lbarred : E_lbarred → So E_lbarred ((List (List Int)) × Th) :=
    (mSeq (mSet l_lbarred_1 (mCallI l_lbarred_0 (fun s p => m_ldraw s p) (mC (3 : Int))))
    (mSeq (mKill (fun e => (Ln.put l_lbarred_2 none (Ln.put l_lbarred_3 none e))) (mIfS (mOp gEq (mVar l_lbarred_1) (mC (0 : Int))) (mSeq (mAsgN (mCallI l_lbarred_0 (fun s p => m_lrings s ) (mC ())) (p2 (pN l_lbarred_2) (pN l_lbarred_3)))
    (mRet (mUn some (mPair (mVar l_lbarred_2) (mOp gIx (mUn szOk (mCons (mUn (toTh (fun xs => Th.tup (List.map (fun t => t) xs))) (mUn szOk (mCons (mUn (toTh Th.str) (mC ("evens" : Str))) (mCons (mUn (toTh (fun xs => Th.lst (List.map (fun xs => Th.lst (List.map Th.int xs)) xs))) (mVar l_lbarred_3)) (mC []))))) (mCons (mUn (toTh (fun xs => Th.tup (List.map (fun t => t) xs))) (mUn szOk (mCons (mUn (toTh Th.str) (mC ("apart" : Str))) (mCons (mUn (toTh (fun xs => Th.lst (List.map Th.int xs))) (mOp gIx (mVar l_lbarred_3) (mCallI l_lbarred_0 (fun s p => m_ldraw s p) (mC (2 : Int))))) (mC []))))) (mC [])))) (mCallI l_lbarred_0 (fun s p => m_ldraw s p) (mC (2 : Int)))))))) mNext))
    (mSeq (mAsgN (mCallI l_lbarred_0 (fun s p => m_lsimple s p) (mOp gAdd (mC (2 : Int)) (mCallI l_lbarred_0 (fun s p => m_ldraw s p) (mC (3 : Int))))) (p2 (pN l_lbarred_2) (pN l_lbarred_4)))
    (mSeq (mIfS (mOp gEq (mVar l_lbarred_1) (mC (1 : Int))) (mRet (mUn some (mPair (mVar l_lbarred_2) (mVar l_lbarred_4)))) mNext)
    (mSeq (mSet l_lbarred_5 (mUn szOk (mCons (mOp gSubI (mC (1 : Int)) (mC (1000000000000000000000000000000 : Int))) (mCons (mOp gSubI (mC (1000000000000000000000000000000 : Int)) (mC (1 : Int))) (mCons (mOp gAdd (mC (100000000000000000000000000000 : Int)) (mC (4 : Int))) (mCons (mOp gSubI (mC (7 : Int)) (mC (100000000000000000000000000000 : Int))) (mCons (mC (77 : Int)) (mC []))))))))
    (mSeq (mSet l_lbarred_5 (mLc (mVar l_lbarred_5) (pN l_lbarred_8) (mOp gNin (mVar l_lbarred_8) (mOp gCat (mOp gIx (mVar l_lbarred_2) (mC (0 : Int))) (mOp gIx (mVar l_lbarred_2) (mC (1 : Int))))) (mVar l_lbarred_8) (fun e => Ln.put l_lbarred_8 none (id e)) (fun e e1 => (fun _ e1 => e1) e (Ln.put l_lbarred_8 (Ln.get l_lbarred_8 (id e)) e1))))
    (mSeq (mSet l_lbarred_6 (mCallI l_lbarred_0 (fun s p => m_lpicked s (p.1) (p.2)) (mPair (mVar l_lbarred_5) (mOp gAdd (mC (1 : Int)) (mCallI l_lbarred_0 (fun s p => m_ldraw s p) (mOp gSubI (mC (6 : Int)) (mUn gLen (mOp gIx (mVar l_lbarred_2) (mC (0 : Int))))))))))
    (mSeq (mSet l_lbarred_7 (mUn gId (mLc (mVar l_lbarred_2) (pN l_lbarred_9) mYes (mUn gId (mUn gSort (mOp gCat (mUn gId (mVar l_lbarred_9)) (mVar l_lbarred_6)))) (fun e => Ln.put l_lbarred_9 none (id e)) (fun e e1 => (fun _ e1 => e1) e (Ln.put l_lbarred_9 (Ln.get l_lbarred_9 (id e)) e1)))))
    (mSeq (mIfS (mOp gEq (mCallI l_lbarred_0 (fun s p => m_ldraw s p) (mC (2 : Int))) (mC (0 : Int))) (mRet (mUn some (mPair (mVar l_lbarred_7) (mUn (toTh (fun xs => Th.tup (List.map (fun t => t) xs))) (mUn szOk (mCons (mUn (toTh Th.str) (mC ("link" : Str))) (mCons (mUn (toTh (fun xs => Th.tup (List.map Th.int xs))) (mUn gId (mUn gSort (mVar l_lbarred_6)))) (mCons (mVar l_lbarred_4) (mC []))))))))) mNext)
    (mCut (mKill (fun e => (Ln.put l_lbarred_8 none e)) (mFor (mVar l_lbarred_6) (pN l_lbarred_8)
    (mKill (fun e => (Ln.put l_lbarred_8 none e)) (mSet l_lbarred_4 (mUn (toTh (fun xs => Th.tup (List.map (fun t => t) xs))) (mUn szOk (mCons (mUn (toTh Th.str) (mC ("link" : Str))) (mCons (mUn (toTh (fun xs => Th.tup (List.map (fun t => t) xs))) (mUn szOk (mCons (mUn (toTh Th.int) (mVar l_lbarred_8)) (mC [])))) (mCons (mVar l_lbarred_4) (mC []))))))))))
    (mRet (mUn some (mPair (mVar l_lbarred_7) (mVar l_lbarred_4))))))))))))))
def m_lbarred (x0 : ((List Int) × Int × Int)) : Rs ((List Int) × Int × Int) ((List (List Int)) × Th) := (M_lbarred (some x0, none, none, none, none, none, none, none, none, none, ())).runI l_lbarred_0 none
abbrev u_lbarred (s : ((List Int) × Int × Int)) (p : Unit) : Rs ((List Int) × Int × Int) ((List (List Int)) × Th) := m_lbarred s
def sp_lbarred (K : PySem.W.Frag) : Sp := spI K cx0 (oL3 rScr rI rI) aNil (fz (rz (oT2 (rTZ (rz (oT rI))) rTh))) u_lbarred
theorem len_lbarred (K : PySem.W.Frag) : ∀ vs H Q E, sp_lbarred K vs H Q E → vs.length = 1 := len_I ALen.nil
def t_lbarred (K : PySem.W.Frag) : TS :=
    (tSeq (tAsg (tCall (sp_ldraw K) [] E0 (tCons (tVar 0) (tCons (tC (.int 3)) tNil))) (gName 1))
    (tSeq (tIfS (tTest (tOp rEq (tVar 1) (tC (.int 0)))) (tSeq (tAsg (tCall (sp_lrings K) [] E0 (tCons (tVar 0) tNil)) (gTup K 2 (gCons (gName 2) (gCons (gName 3) gNil))))
    (tRet (tTup (tCons (tVar 2) (tCons (tOp (rIxL K) (tLst (tCons (tTup (tCons (tC (.str "evens")) (tCons (tVar 3) tNil))) (tCons (tTup (tCons (tC (.str "apart")) (tCons (tOp (rIxL K) (tVar 3) (tCall (sp_ldraw K) [] E0 (tCons (tVar 0) (tCons (tC (.int 2)) tNil)))) tNil))) tNil))) (tCall (sp_ldraw K) [] E0 (tCons (tVar 0) (tCons (tC (.int 2)) tNil)))) tNil))))) tNext)
    (tSeq (tAsg (tCall (sp_lsimple K) [] E0 (tCons (tVar 0) (tCons (tOp rAdd (tC (.int 2)) (tCall (sp_ldraw K) [] E0 (tCons (tVar 0) (tCons (tC (.int 3)) tNil)))) tNil))) (gTup K 2 (gCons (gName 2) (gCons (gName 4) gNil))))
    (tSeq (tIfS (tTest (tOp rEq (tVar 1) (tC (.int 1)))) (tRet (tTup (tCons (tVar 2) (tCons (tVar 4) tNil)))) tNext)
    (tSeq (tAsg (tLst (tCons (tOp rSub (tC (.int 1)) (tOp rPow (tC (.int 10)) (tC (.int 30)))) (tCons (tOp rSub (tOp rPow (tC (.int 10)) (tC (.int 30))) (tC (.int 1))) (tCons (tOp rAdd (tOp rPow (tC (.int 10)) (tC (.int 29))) (tC (.int 4))) (tCons (tOp rSub (tC (.int 7)) (tOp rPow (tC (.int 10)) (tC (.int 29)))) (tCons (tC (.int 77)) tNil)))))) (gName 5))
    (tSeq (tAsg (tLc (iList K (tVar 5)) (gName 8) (tTest (tOp (rIn K true) (tVar 8) (tOp (rCatA K) (tOp (rIxT K) (tVar 2) (tC (.int 0))) (tOp (rIxT K) (tVar 2) (tC (.int 1)))))) (tVar 8) [8]) (gName 5))
    (tSeq (tAsg (tCall (sp_lpicked K) [] E0 (tCons (tVar 0) (tCons (tVar 5) (tCons (tOp rAdd (tC (.int 1)) (tCall (sp_ldraw K) [] E0 (tCons (tVar 0) (tCons (tOp rSub (tC (.int 6)) (tCB (rLenL K) (tCons (tOp (rIxT K) (tVar 2) (tC (.int 0))) tNil))) tNil)))) tNil)))) (gName 6))
    (tSeq (tAsg (tCB (rTupZ K) (tCons (tLc (iTup K (tVar 2)) (gName 9) tYes (tCB (rTupOf K) (tCons (tCB (rSortedI K) (tCons (tOp rCat (tCB (rListOf K) (tCons (tVar 9) tNil)) (tVar 6)) tNil)) tNil)) [9]) tNil)) (gName 7))
    (tSeq (tIfS (tTest (tOp rEq (tCall (sp_ldraw K) [] E0 (tCons (tVar 0) (tCons (tC (.int 2)) tNil))) (tC (.int 0)))) (tRet (tTup (tCons (tVar 7) (tCons (tTup (tCons (tC (.str "link")) (tCons (tCB (rTupOf K) (tCons (tCB (rSortedI K) (tCons (tVar 6) tNil)) tNil)) (tCons (tVar 4) tNil)))) tNil)))) tNext)
    (tSeq (tFor (iList K (tVar 6)) (gName 8)
    (tAsg (tTup (tCons (tC (.str "link")) (tCons (tTup (tCons (tVar 8) tNil)) (tCons (tVar 4) tNil)))) (gName 4)))
    (tRet (tTup (tCons (tVar 7) (tCons (tVar 4) tNil))))))))))))))
theorem sx_lbarred {K : PySem.W.Frag} : SX ⟨K, E0, cx0⟩ R_lbarred (fz (rz (oT2 (rTZ (rz (oT rI))) rTh))) (t_lbarred K) M_lbarred :=
    (s_seq (s_set a_lbarred_1 (x_callI a_lbarred_0 ownI_q (x_pone Cv.id (x_c fun _ => rfl))))
    (s_seq (s_kill (Kl.and (Kl.fr a_lbarred_2) (Kl.fr a_lbarred_3)) (s_if (x_test (x_tOp v_eqI Cv.id (x_var a_lbarred_1) (x_is Cv.id (x_c fun _ => rfl)))) (s_seq (s_asgN (vs := [2, 3]) (x_callI a_lbarred_0 ownI_q x_pnil) (n_tup2 (n_name a_lbarred_2 (by decide)) (n_name a_lbarred_3 (by decide))))
    (s_ret (x_tup2 (x_p2 (x_var a_lbarred_2) (x_tOp v_ixL Cv.ob (x_fz (x_lst (x_lcons (x_cast (ci_T ci_id) (x_tup (x_lcons (x_cast ci_S (x_c fun _ => rfl)) (x_lcons (x_cast (ci_L (ci_L ci_I)) (x_var a_lbarred_3)) x_lnil)))) (x_lcons (x_cast (ci_T ci_id) (x_tup (x_lcons (x_cast ci_S (x_c fun _ => rfl)) (x_lcons (x_cast (ci_L ci_I) (x_tOp v_ixL Cv.ob (x_var a_lbarred_3) (x_is Cv.id (x_callI a_lbarred_0 ownI_q (x_pone Cv.id (x_c fun _ => rfl)))))) x_lnil)))) x_lnil)))) (x_is Cv.id (x_callI a_lbarred_0 ownI_q (x_pone Cv.id (x_c fun _ => rfl))))))))) s_next))
    (s_seq (s_asgN (vs := [2, 4]) (x_callI a_lbarred_0 ownI_q (x_pone Cv.id (x_tOp v_add Cv.id (x_c fun _ => rfl) (x_is Cv.id (x_callI a_lbarred_0 ownI_q (x_pone Cv.id (x_c fun _ => rfl))))))) (n_tup2 (n_name a_lbarred_2 (by decide)) (n_name a_lbarred_4 (by decide))))
    (s_seq (s_if (x_test (x_tOp v_eqI Cv.id (x_var a_lbarred_1) (x_is Cv.id (x_c fun _ => rfl)))) (s_ret (x_tup2 (x_p2 (x_var a_lbarred_2) (x_var a_lbarred_4)))) s_next)
    (s_seq (s_set a_lbarred_5 (x_fz (x_lst (x_lcons (x_tOp v_sub Cv.id (x_c fun _ => rfl) (x_is Cv.id (x_powc (by decide)))) (x_lcons (x_tOp v_sub Cv.id (x_powc (by decide)) (x_is Cv.id (x_c fun _ => rfl))) (x_lcons (x_tOp v_add Cv.id (x_powc (by decide)) (x_is Cv.id (x_c fun _ => rfl))) (x_lcons (x_tOp v_sub Cv.id (x_c fun _ => rfl) (x_is Cv.id (x_powc (by decide)))) (x_lcons (x_c fun _ => rfl) x_lnil))))))))
    (s_seq (s_set a_lbarred_5 (x_fz (x_lc (x_iL (x_var a_lbarred_5)) (Wp.cons a_lbarred_8 Wp.nil) (n_name a_lbarred_8 (by decide)) (x_test (x_tOp v_ninTI Cv.id (x_var a_lbarred_8) (x_is Cv.ob (x_tOp v_catT Cv.id (x_tOp v_ixTZ Cv.id (x_var a_lbarred_2) (x_is Cv.id (x_c fun _ => rfl))) (x_is Cv.id (x_tOp v_ixTZ Cv.id (x_var a_lbarred_2) (x_is Cv.id (x_c fun _ => rfl)))))))) (x_var a_lbarred_8))))
    (s_seq (s_set a_lbarred_6 (x_fz (x_callIF a_lbarred_0 ownI_q (x_pcons Cv.ob (x_var a_lbarred_5) (x_pone Cv.id (x_tOp v_add Cv.id (x_c fun _ => rfl) (x_is Cv.id (x_callI a_lbarred_0 ownI_q (x_pone Cv.id (x_tOp v_sub Cv.id (x_c fun _ => rfl) (x_is Cv.id (x_tCB v_lenT (x_aone (x_is Cv.ob (x_tOp v_ixTZ Cv.id (x_var a_lbarred_2) (x_is Cv.id (x_c fun _ => rfl)))))))))))))))))
    (s_seq (s_set a_lbarred_7 (x_tCB v_tupZ (x_aone (x_is Cv.ob (x_fz (x_lc (x_iTZ (x_var a_lbarred_2)) (Wp.cons a_lbarred_9 Wp.nil) (n_name a_lbarred_9 (by decide)) x_yes (x_tCB v_tupOfL (x_aone (x_is Cv.ob (x_fz (x_tCBF v_sortL (x_aone (x_is Cv.ob (x_fz (x_tOpF v_cat Cv.ob (x_fz (x_tCBF v_lstOfT (x_aone (x_is Cv.ob (x_var a_lbarred_9))))) (x_is Cv.ob (x_var a_lbarred_6)))))))))))))))))
    (s_seq (s_if (x_test (x_tOp v_eqI Cv.id (x_callI a_lbarred_0 ownI_q (x_pone Cv.id (x_c fun _ => rfl))) (x_is Cv.id (x_c fun _ => rfl)))) (s_ret (x_tup2 (x_p2 (x_var a_lbarred_7) (x_cast (ci_T ci_id) (x_tup (x_lcons (x_cast ci_S (x_c fun _ => rfl)) (x_lcons (x_cast (ci_T ci_I) (x_tCB v_tupOfL (x_aone (x_is Cv.ob (x_fz (x_tCBF v_sortL (x_aone (x_is Cv.ob (x_var a_lbarred_6))))))))) (x_lcons (x_var a_lbarred_4) x_lnil)))))))) s_next)
    (s_seqC (s_kill (Kl.fr a_lbarred_8) (s_for (vs := [8]) (x_iL (x_var a_lbarred_6)) (n_name a_lbarred_8 (by decide))
    (s_kill (Kl.fr a_lbarred_8) (s_set a_lbarred_4 (x_cast (ci_T ci_id) (x_tup (x_lcons (x_cast ci_S (x_c fun _ => rfl)) (x_lcons (x_cast (ci_T ci_id) (x_tup (x_lcons (x_cast ci_I (x_var a_lbarred_8)) x_lnil))) (x_lcons (x_var a_lbarred_4) x_lnil)))))))))
    (s_ret (x_tup2 (x_p2 (x_var a_lbarred_7) (x_var a_lbarred_4))))))))))))))
theorem rd_lbarred {K : PySem.W.Frag} {H : Hp} {vs : List V} {Q : VK} {E : XK} {N : List Str} (h : sp_lbarred K vs H Q E) (hN : N.length = 10 := by rfl) : t_lbarred K { nx := fun _ H' => Q .non H', rt := Q } (start N vs) H := by
  have h : spI K cx0 (oL3 rScr rI rI) aNil (fz (rz (oT2 (rTZ (rz (oT rI))) rTh))) (fun (s : ((List Int) × Int × Int)) (a : Unit) => (M_lbarred (some s, none, none, none, none, none, none, none, none, none, ())).runI l_lbarred_0 none) vs H Q E := h
  refine d_I (dn := none) (ra := aNil) (e0 := fun (s : ((List Int) × Int × Int)) (a : Unit) => (some s, none, none, none, none, none, none, none, none, none, ())) (sx_lbarred) a_lbarred_0 ?_ ?_ h
  · intro G H p ho st ws a k1 k2 k3 s hr
    obtain rfl := hr
    rw [show start N [.ref p] = [some (.ref p), none, none, none, none, none, none, none, none, none] by simp [L2.start, hN]]
    exact e_io k1 k2 k3 rfl ⟨rfl, rfl⟩ (e_frN (e_frN (e_frN (e_frN (e_frN (e_frN (e_frN (e_frN (e_frN e_nil)))))))))
  · intro b h; cases h
abbrev E_lline : Type := Option Str × Option (List Int) × Option Int × Unit
def R_lline : ERep E_lline := (eFr rS (eFr (rz (oT rI)) (eFr rI eNil)))
abbrev l_lline_0 : Ln E_lline Str := Ln.z
theorem a_lline_0 : FrAt R_lline 0 rS l_lline_0 := FrAt.z
abbrev l_lline_1 : Ln E_lline (List Int) := (Ln.s Ln.z)
theorem a_lline_1 : FrAt R_lline 1 (rz (oT rI)) l_lline_1 := (FrAt.sF FrAt.z)
abbrev l_lline_2 : Ln E_lline Int := (Ln.s (Ln.s Ln.z))
theorem a_lline_2 : FrAt R_lline 2 rI l_lline_2 := (FrAt.sF (FrAt.sF FrAt.z))
def M_lline : E_lline → So E_lline Str :=
    (mRet (mOp gJoin (mC (" " : Str)) (mOp gCat (mUn szOk (mCons (mVar l_lline_0) (mC []))) (mLc (mVar l_lline_1) (pN l_lline_2) mYes (mUn gStr (mVar l_lline_2)) (fun e => Ln.put l_lline_2 none (id e)) (fun e e1 => (fun _ e1 => e1) e (Ln.put l_lline_2 (Ln.get l_lline_2 (id e)) e1))))))
def m_lline (x0 : Str) (x1 : (List Int)) : Rs Unit Str := (M_lline (some x0, some x1, none, ())).run none
abbrev u_lline (p : Str × (List Int)) : Rs Unit Str := m_lline (p.1) (p.2)
def sp_lline (K : PySem.W.Frag) : Sp := spD K cx0 (aCons (ir rS) (aOne (ir (rz (oT rI))))) (fz rS) u_lline
theorem len_lline (K : PySem.W.Frag) : ∀ vs H Q E, sp_lline K vs H Q E → vs.length = 2 := len_D (ALen.cons ALen.one)
def t_lline (K : PySem.W.Frag) : TS :=
    (tRet (tM1 (rJoin K) (tC (.str " ")) (tOp rCat (tLst (tCons (tVar 0) tNil)) (tLc (iTup K (tVar 1)) (gName 2) tYes (tCB rStr (tCons (tVar 2) tNil)) [2]))))
theorem sx_lline {K : PySem.W.Frag} : SX ⟨K, E0, cx0⟩ R_lline (fz rS) (t_lline K) M_lline :=
    (s_ret (x_join (x_c fun _ => rfl) (x_fz (x_tOpF v_cat Cv.ob (x_fz (x_lst (x_lcons (x_var a_lline_0) x_lnil))) (x_is Cv.ob (x_fz (x_lc (x_iT (x_var a_lline_1)) (Wp.cons a_lline_2 Wp.nil) (n_name a_lline_2 (by decide)) x_yes (x_tCB v_str (x_aone (x_is Cv.id (x_var a_lline_2)))))))))))
theorem rd_lline {K : PySem.W.Frag} {H : Hp} {vs : List V} {Q : VK} {E : XK} {N : List Str} (h : sp_lline K vs H Q E) (hN : N.length = 3 := by rfl) : t_lline K { nx := fun _ H' => Q .non H', rt := Q } (start N vs) H := by
  have h : spD K cx0 (aCons (ir rS) (aOne (ir (rz (oT rI))))) (fz rS) (fun (a : Str × (List Int)) => (M_lline (some a.1, some a.2, none, ())).run none) vs H Q E := h
  refine d_D (dn := none) (ra := (aCons (ir rS) (aOne (ir (rz (oT rI)))))) (e0 := fun (a : Str × (List Int)) => (some a.1, some a.2, none, ())) (sx_lline) ?_ ?_ h
  · intro G H vs a s hr
    obtain ⟨v0, _, rfl, h0, ⟨v1, rfl, h1⟩⟩ := hr
    rw [show start N [v0, v1] = [some v0, some v1, none] by simp [L2.start, hN]]
    exact (e_fr h0 (e_fr h1 (e_frN e_nil)))
  · intro b h; cases h
abbrev E_lline_l : Type := Option Str × Option (List Int) × Option Int × Unit
def R_lline_l : ERep E_lline_l := (eFr rS (eBo (oL rI) (eFr rI eNil)))
abbrev l_lline_l_0 : Ln E_lline_l Str := Ln.z
theorem a_lline_l_0 : FrAt R_lline_l 0 rS l_lline_l_0 := FrAt.z
abbrev l_lline_l_1 : Ln E_lline_l (List Int) := (Ln.s Ln.z)
theorem a_lline_l_1 : BoAt R_lline_l 1 (oL rI) l_lline_l_1 := (BoAt.sF BoAt.z)
abbrev l_lline_l_2 : Ln E_lline_l Int := (Ln.s (Ln.s Ln.z))
theorem a_lline_l_2 : FrAt R_lline_l 2 rI l_lline_l_2 := (FrAt.sF (FrAt.sB FrAt.z))
def M_lline_l : E_lline_l → So E_lline_l Str :=
    (mRet (mOp gJoin (mC (" " : Str)) (mOp gCat (mUn szOk (mCons (mVar l_lline_l_0) (mC []))) (mLc (mVar l_lline_l_1) (pN l_lline_l_2) mYes (mUn gStr (mVar l_lline_l_2)) (fun e => Ln.put l_lline_l_2 none (id e)) (fun e e1 => (fun _ e1 => e1) e (Ln.put l_lline_l_2 (Ln.get l_lline_l_2 (id e)) e1))))))
def m_lline_l (x0 : Str) (x1 : (List Int)) : Rs Unit Str := (M_lline_l (some x0, some x1, none, ())).run none
abbrev u_lline_l (p : Str × (List Int)) : Rs Unit Str := m_lline_l (p.1) (p.2)
def sp_lline_l (K : PySem.W.Frag) : Sp := spD K cx0 (aCons (ir rS) (aOne (rd (oL rI)))) (fz rS) u_lline_l
theorem len_lline_l (K : PySem.W.Frag) : ∀ vs H Q E, sp_lline_l K vs H Q E → vs.length = 2 := len_D (ALen.cons ALen.one)
def t_lline_l (K : PySem.W.Frag) : TS :=
    (tRet (tM1 (rJoin K) (tC (.str " ")) (tOp rCat (tLst (tCons (tVar 0) tNil)) (tLc (iList K (tVar 1)) (gName 2) tYes (tCB rStr (tCons (tVar 2) tNil)) [2]))))
theorem sx_lline_l {K : PySem.W.Frag} : SX ⟨K, E0, cx0⟩ R_lline_l (fz rS) (t_lline_l K) M_lline_l :=
    (s_ret (x_join (x_c fun _ => rfl) (x_fz (x_tOpF v_cat Cv.ob (x_fz (x_lst (x_lcons (x_var a_lline_l_0) x_lnil))) (x_is Cv.ob (x_fz (x_lc (x_iLB a_lline_l_1) (Wp.cons a_lline_l_2 Wp.nil) (n_name a_lline_l_2 (by decide)) x_yes (x_tCB v_str (x_aone (x_is Cv.id (x_var a_lline_l_2)))))))))))
theorem rd_lline_l {K : PySem.W.Frag} {H : Hp} {vs : List V} {Q : VK} {E : XK} {N : List Str} (h : sp_lline_l K vs H Q E) (hN : N.length = 3 := by rfl) : t_lline_l K { nx := fun _ H' => Q .non H', rt := Q } (start N vs) H := by
  have h : spD K cx0 (aCons (ir rS) (aOne (rd (oL rI)))) (fz rS) (fun (a : Str × (List Int)) => (M_lline_l (some a.1, some a.2, none, ())).run none) vs H Q E := h
  refine d_D (dn := none) (ra := (aCons (ir rS) (aOne (rd (oL rI))))) (e0 := fun (a : Str × (List Int)) => (some a.1, some a.2, none, ())) (sx_lline_l) ?_ ?_ h
  · intro G H vs a s hr
    obtain ⟨v0, _, rfl, h0, ⟨v1, rfl, h1⟩⟩ := hr
    rw [show start N [v0, v1] = [some v0, some v1, none] by simp [L2.start, hN]]
    exact (e_fr h0 (e_bo h1 bo_D (e_frN e_nil)))
  · intro b h; cases h
abbrev E_lfar : Type := Option ((List Int) × Int × Int) × Option Int × Unit
def R_lfar : ERep E_lfar := (eIo 0 (oL3 rScr rI rI) (eFr rI eNil))
abbrev l_lfar_0 : Ln E_lfar ((List Int) × Int × Int) := Ln.z
theorem a_lfar_0 : OwAt R_lfar 0 (ownI 0) (oL3 rScr rI rI) l_lfar_0 := OwAt.z
abbrev l_lfar_1 : Ln E_lfar Int := (Ln.s Ln.z)
theorem a_lfar_1 : FrAt R_lfar 1 rI l_lfar_1 := (FrAt.sO FrAt.z)
def M_lfar : E_lfar → So E_lfar Int :=
    (mSeq (mSet l_lfar_1 (mOp gSubI (mUn gIntS (mOp gMulS (mC ("9" : Str)) (mOp gAdd (mC (1 : Int)) (mCallI l_lfar_0 (fun s p => m_ldraw s p) (mC (30 : Int)))))) (mCallI l_lfar_0 (fun s p => m_ldraw s p) (mC (9 : Int)))))
    (mRet (mOp gIx (mUn szOk (mCons (mCallI l_lfar_0 (fun s p => m_ldraw s p) (mC (5 : Int))) (mCons (mCallI l_lfar_0 (fun s p => m_ldraw s p) (mC (400 : Int))) (mCons (mVar l_lfar_1) (mCons (mOp gSubI (mC (1000000000000000000000000000000 : Int)) (mC (1 : Int))) (mC [])))))) (mCallI l_lfar_0 (fun s p => m_ldraw s p) (mC (4 : Int))))))
def m_lfar (x0 : ((List Int) × Int × Int)) : Rs ((List Int) × Int × Int) Int := (M_lfar (some x0, none, ())).runI l_lfar_0 none
abbrev u_lfar (s : ((List Int) × Int × Int)) (p : Unit) : Rs ((List Int) × Int × Int) Int := m_lfar s
def sp_lfar (K : PySem.W.Frag) : Sp := spI K cx0 (oL3 rScr rI rI) aNil (fz rI) u_lfar
theorem len_lfar (K : PySem.W.Frag) : ∀ vs H Q E, sp_lfar K vs H Q E → vs.length = 1 := len_I ALen.nil
def t_lfar (K : PySem.W.Frag) : TS :=
    (tSeq (tAsg (tOp rSub (tCB rIntS (tCons (tOp rMulS (tC (.str "9")) (tOp rAdd (tC (.int 1)) (tCall (sp_ldraw K) [] E0 (tCons (tVar 0) (tCons (tC (.int 30)) tNil))))) tNil)) (tCall (sp_ldraw K) [] E0 (tCons (tVar 0) (tCons (tC (.int 9)) tNil)))) (gName 1))
    (tRet (tOp (rIxL K) (tLst (tCons (tCall (sp_ldraw K) [] E0 (tCons (tVar 0) (tCons (tC (.int 5)) tNil))) (tCons (tCall (sp_ldraw K) [] E0 (tCons (tVar 0) (tCons (tC (.int 400)) tNil))) (tCons (tVar 1) (tCons (tOp rSub (tOp rPow (tC (.int 10)) (tC (.int 30))) (tC (.int 1))) tNil))))) (tCall (sp_ldraw K) [] E0 (tCons (tVar 0) (tCons (tC (.int 4)) tNil))))))
theorem sx_lfar {K : PySem.W.Frag} : SX ⟨K, E0, cx0⟩ R_lfar (fz rI) (t_lfar K) M_lfar :=
    (s_seq (s_set a_lfar_1 (x_tOp v_sub Cv.id (x_tCB v_intS (x_aone (x_is Cv.id (x_tOp v_mulS Cv.id (x_c fun _ => rfl) (x_is Cv.id (x_tOp v_add Cv.id (x_c fun _ => rfl) (x_is Cv.id (x_callI a_lfar_0 ownI_q (x_pone Cv.id (x_c fun _ => rfl)))))))))) (x_is Cv.id (x_callI a_lfar_0 ownI_q (x_pone Cv.id (x_c fun _ => rfl))))))
    (s_ret (x_tOp v_ixL Cv.ob (x_fz (x_lst (x_lcons (x_callI a_lfar_0 ownI_q (x_pone Cv.id (x_c fun _ => rfl))) (x_lcons (x_callI a_lfar_0 ownI_q (x_pone Cv.id (x_c fun _ => rfl))) (x_lcons (x_var a_lfar_1) (x_lcons (x_tOp v_sub Cv.id (x_powc (by decide)) (x_is Cv.id (x_c fun _ => rfl))) x_lnil)))))) (x_is Cv.id (x_callI a_lfar_0 ownI_q (x_pone Cv.id (x_c fun _ => rfl)))))))
theorem rd_lfar {K : PySem.W.Frag} {H : Hp} {vs : List V} {Q : VK} {E : XK} {N : List Str} (h : sp_lfar K vs H Q E) (hN : N.length = 2 := by rfl) : t_lfar K { nx := fun _ H' => Q .non H', rt := Q } (start N vs) H := by
  have h : spI K cx0 (oL3 rScr rI rI) aNil (fz rI) (fun (s : ((List Int) × Int × Int)) (a : Unit) => (M_lfar (some s, none, ())).runI l_lfar_0 none) vs H Q E := h
  refine d_I (dn := none) (ra := aNil) (e0 := fun (s : ((List Int) × Int × Int)) (a : Unit) => (some s, none, ())) (sx_lfar) a_lfar_0 ?_ ?_ h
  · intro G H p ho st ws a k1 k2 k3 s hr
    obtain rfl := hr
    rw [show start N [.ref p] = [some (.ref p), none] by simp [L2.start, hN]]
    exact e_io k1 k2 k3 rfl ⟨rfl, rfl⟩ (e_frN e_nil)
  · intro b h; cases h
abbrev E_lface : Type := Option ((List Int) × Int × Int) × Option Int × Option Int × Option (List Int) × Option Int × Unit
def R_lface : ERep E_lface := (eIo 0 (oL3 rScr rI rI) (eFr rI (eFr rI (eFr (rz (oL rI)) (eFr rI eNil)))))
abbrev l_lface_0 : Ln E_lface ((List Int) × Int × Int) := Ln.z
theorem a_lface_0 : OwAt R_lface 0 (ownI 0) (oL3 rScr rI rI) l_lface_0 := OwAt.z
abbrev l_lface_1 : Ln E_lface Int := (Ln.s Ln.z)
theorem a_lface_1 : FrAt R_lface 1 rI l_lface_1 := (FrAt.sO FrAt.z)
abbrev l_lface_2 : Ln E_lface Int := (Ln.s (Ln.s Ln.z))
theorem a_lface_2 : FrAt R_lface 2 rI l_lface_2 := (FrAt.sO (FrAt.sF FrAt.z))
abbrev l_lface_3 : Ln E_lface (List Int) := (Ln.s (Ln.s (Ln.s Ln.z)))
theorem a_lface_3 : FrAt R_lface 3 (rz (oL rI)) l_lface_3 := (FrAt.sO (FrAt.sF (FrAt.sF FrAt.z)))
abbrev l_lface_4 : Ln E_lface Int := (Ln.s (Ln.s (Ln.s (Ln.s Ln.z))))
theorem a_lface_4 : FrAt R_lface 4 rI l_lface_4 := (FrAt.sO (FrAt.sF (FrAt.sF (FrAt.sF FrAt.z))))
def M_lface : E_lface → So E_lface (List Int) :=
    (mSeq (mSet l_lface_3 (mCallI l_lface_0 (fun s p => m_lcorners s p) (mC (9 : Int))))
    (mSeq (mSet l_lface_4 (mOp gAdd (mVar l_lface_1) (mCallI l_lface_0 (fun s p => m_ldraw s p) (mOp gSubI (mOp gAdd (mVar l_lface_2) (mC (1 : Int))) (mVar l_lface_1)))))
    (mRet (mUn gId (mUn gSort (mCallI l_lface_0 (fun s p => m_lpicked s (p.1) (p.2)) (mPair (mVar l_lface_3) (mVar l_lface_4))))))))
def m_lface (x0 : ((List Int) × Int × Int)) (x1 : Int) (x2 : Int) : Rs ((List Int) × Int × Int) (List Int) := (M_lface (some x0, some x1, some x2, none, none, ())).runI l_lface_0 none
abbrev u_lface (s : ((List Int) × Int × Int)) (p : Int × Int) : Rs ((List Int) × Int × Int) (List Int) := m_lface s (p.1) (p.2)
def sp_lface (K : PySem.W.Frag) : Sp := spI K cx0 (oL3 rScr rI rI) (aCons (ir rI) (aOne (ir rI))) (fz (rz (oT rI))) u_lface
theorem len_lface (K : PySem.W.Frag) : ∀ vs H Q E, sp_lface K vs H Q E → vs.length = 3 := len_I (ALen.cons ALen.one)
def t_lface (K : PySem.W.Frag) : TS :=
    (tSeq (tAsg (tCall (sp_lcorners K) [] E0 (tCons (tVar 0) (tCons (tC (.int 9)) tNil))) (gName 3))
    (tSeq (tAsg (tOp rAdd (tVar 1) (tCall (sp_ldraw K) [] E0 (tCons (tVar 0) (tCons (tOp rSub (tOp rAdd (tVar 2) (tC (.int 1))) (tVar 1)) tNil)))) (gName 4))
    (tRet (tCB (rTupOf K) (tCons (tCB (rSortedI K) (tCons (tCall (sp_lpicked K) [] E0 (tCons (tVar 0) (tCons (tVar 3) (tCons (tVar 4) tNil)))) tNil)) tNil)))))
theorem sx_lface {K : PySem.W.Frag} : SX ⟨K, E0, cx0⟩ R_lface (fz (rz (oT rI))) (t_lface K) M_lface :=
    (s_seq (s_set a_lface_3 (x_callI a_lface_0 ownI_q (x_pone Cv.id (x_c fun _ => rfl))))
    (s_seq (s_set a_lface_4 (x_tOp v_add Cv.id (x_var a_lface_1) (x_is Cv.id (x_callI a_lface_0 ownI_q (x_pone Cv.id (x_tOp v_sub Cv.id (x_tOp v_add Cv.id (x_var a_lface_2) (x_is Cv.id (x_c fun _ => rfl))) (x_is Cv.id (x_var a_lface_1))))))))
    (s_ret (x_tCB v_tupOfL (x_aone (x_is Cv.ob (x_fz (x_tCBF v_sortL (x_aone (x_is Cv.ob (x_fz (x_callIF a_lface_0 ownI_q (x_pcons Cv.ob (x_var a_lface_3) (x_pone Cv.id (x_var a_lface_4)))))))))))))))
theorem rd_lface {K : PySem.W.Frag} {H : Hp} {vs : List V} {Q : VK} {E : XK} {N : List Str} (h : sp_lface K vs H Q E) (hN : N.length = 5 := by rfl) : t_lface K { nx := fun _ H' => Q .non H', rt := Q } (start N vs) H := by
  have h : spI K cx0 (oL3 rScr rI rI) (aCons (ir rI) (aOne (ir rI))) (fz (rz (oT rI))) (fun (s : ((List Int) × Int × Int)) (a : Int × Int) => (M_lface (some s, some a.1, some a.2, none, none, ())).runI l_lface_0 none) vs H Q E := h
  refine d_I (dn := none) (ra := (aCons (ir rI) (aOne (ir rI)))) (e0 := fun (s : ((List Int) × Int × Int)) (a : Int × Int) => (some s, some a.1, some a.2, none, none, ())) (sx_lface) a_lface_0 ?_ ?_ h
  · intro G H p ho st ws a k1 k2 k3 s hr
    obtain ⟨v1, _, rfl, h1, ⟨v2, rfl, h2⟩⟩ := hr
    rw [show start N [.ref p, v1, v2] = [some (.ref p), some v1, some v2, none, none] by simp [L2.start, hN]]
    exact e_io k1 k2 k3 rfl ⟨rfl, rfl⟩ (e_fr h1 (e_fr h2 (e_frN (e_frN e_nil))))
  · intro b h; cases h
abbrev E_lnumbers : Type := Option ((List Int) × Int × Int) × Option Int × Option (List (Int × Bool)) × Option Int × Unit
def R_lnumbers : ERep E_lnumbers := (eIo 0 (oL3 rScr rI rI) (eFr rI (eOw (oDI rB) (eFr rI eNil))))
abbrev l_lnumbers_0 : Ln E_lnumbers ((List Int) × Int × Int) := Ln.z
theorem a_lnumbers_0 : OwAt R_lnumbers 0 (ownI 0) (oL3 rScr rI rI) l_lnumbers_0 := OwAt.z
abbrev l_lnumbers_1 : Ln E_lnumbers Int := (Ln.s Ln.z)
theorem a_lnumbers_1 : FrAt R_lnumbers 1 rI l_lnumbers_1 := (FrAt.sO FrAt.z)
abbrev l_lnumbers_2 : Ln E_lnumbers (List (Int × Bool)) := (Ln.s (Ln.s Ln.z))
theorem a_lnumbers_2 : OwAt R_lnumbers 2 ownN (oDI rB) l_lnumbers_2 := (OwAt.sO (OwAt.sF OwAt.z))
abbrev l_lnumbers_3 : Ln E_lnumbers Int := (Ln.s (Ln.s (Ln.s Ln.z)))
theorem a_lnumbers_3 : FrAt R_lnumbers 3 rI l_lnumbers_3 := (FrAt.sO (FrAt.sF (FrAt.sO FrAt.z)))
def M_lnumbers : E_lnumbers → So E_lnumbers (List Int) :=
    (mSeq (mSet l_lnumbers_2 (mC ([] : (List (Int × Bool)))))
    (mSeq (mIfS (mOp gEq (mCallI l_lnumbers_0 (fun s p => m_ldraw s p) (mC (5 : Int))) (mC (0 : Int))) (mRet (mUn gSort (mCallI l_lnumbers_0 (fun s p => m_lpicked s (p.1) (p.2)) (mPair (mUn gRg (mC (60 : Int))) (mOp gAdd (mC (7 : Int)) (mCallI l_lnumbers_0 (fun s p => m_ldraw s p) (mC (34 : Int)))))))) mNext)
    (mCut (mKill (fun e => (Ln.put l_lnumbers_3 none e)) (mFor (mRng1 (mOp gAdd (mVar l_lnumbers_1) (mCallI l_lnumbers_0 (fun s p => m_ldraw s p) (mC (6 : Int))))) (pN l_lnumbers_3)
    (mKill (fun e => (Ln.put l_lnumbers_3 none e)) (mSetI l_lnumbers_2 gDPut (mCallI l_lnumbers_0 (fun s p => m_lfar s ) (mC ())) (mC true)))))
    (mRet (mUn gSortKI (mVar l_lnumbers_2))))))
def m_lnumbers (x0 : ((List Int) × Int × Int)) (x1 : Int) : Rs ((List Int) × Int × Int) (List Int) := (M_lnumbers (some x0, some x1, none, none, ())).runI l_lnumbers_0 none
abbrev u_lnumbers (s : ((List Int) × Int × Int)) (p : Int) : Rs ((List Int) × Int × Int) (List Int) := m_lnumbers s p
def sp_lnumbers (K : PySem.W.Frag) : Sp := spI K cx0 (oL3 rScr rI rI) (aOne (ir rI)) (fs (oL rI)) u_lnumbers
theorem len_lnumbers (K : PySem.W.Frag) : ∀ vs H Q E, sp_lnumbers K vs H Q E → vs.length = 2 := len_I ALen.one
def t_lnumbers (K : PySem.W.Frag) : TS :=
    (tSeq (tAsg tDNewK (gName 2))
    (tSeq (tIfS (tTest (tOp rEq (tCall (sp_ldraw K) [] E0 (tCons (tVar 0) (tCons (tC (.int 5)) tNil))) (tC (.int 0)))) (tRet (tCB (rSortedI K) (tCons (tCall (sp_lpicked K) [] E0 (tCons (tVar 0) (tCons (tLstRg (tRg1 (tC (.int 60)))) (tCons (tOp rAdd (tC (.int 7)) (tCall (sp_ldraw K) [] E0 (tCons (tVar 0) (tCons (tC (.int 34)) tNil)))) tNil)))) tNil))) tNext)
    (tSeq (tFor (iRng1 (tCons (tOp rAdd (tVar 1) (tCall (sp_ldraw K) [] E0 (tCons (tVar 0) (tCons (tC (.int 6)) tNil)))) tNil)) (gName 3)
    (tAsg (tC (.bl true)) (gSub (tVar 2) (tCall (sp_lfar K) [] E0 (tCons (tVar 0) tNil)) rSetD)))
    (tRet (tCB rSortDI (tCons (tVar 2) tNil))))))
theorem sx_lnumbers {K : PySem.W.Frag} : SX ⟨K, E0, cx0⟩ R_lnumbers (fs (oL rI)) (t_lnumbers K) M_lnumbers :=
    (s_seq (s_setO a_lnumbers_2 (x_dnewK (r := rB)))
    (s_seq (s_if (x_test (x_tOp v_eqI Cv.id (x_callI a_lnumbers_0 ownI_q (x_pone Cv.id (x_c fun _ => rfl))) (x_is Cv.id (x_c fun _ => rfl)))) (s_ret (x_tCBF v_sortL (x_aone (x_is Cv.ob (x_fz (x_callIF a_lnumbers_0 ownI_q (x_pcons Cv.ob (x_fz (x_lstRg (x_is Cv.id (x_c fun _ => rfl)))) (x_pone Cv.id (x_tOp v_add Cv.id (x_c fun _ => rfl) (x_is Cv.id (x_callI a_lnumbers_0 ownI_q (x_pone Cv.id (x_c fun _ => rfl))))))))))))) s_next)
    (s_seqC (s_kill (Kl.fr a_lnumbers_3) (s_for (vs := [3]) (x_rng1 (x_aone (x_is Cv.id (x_tOp v_add Cv.id (x_var a_lnumbers_1) (x_is Cv.id (x_callI a_lnumbers_0 ownI_q (x_pone Cv.id (x_c fun _ => rfl)))))))) (n_name a_lnumbers_3 (by decide))
    (s_kill (Kl.fr a_lnumbers_3) (s_setI v_dputI nt_DI ownN_q a_lnumbers_2 (x_c fun _ => rfl) (x_callI a_lnumbers_0 ownI_q x_pnil)))))
    (s_ret (x_tCBF v_sortDI (x_aone (x_varL (Late.ow a_lnumbers_2))))))))
theorem rd_lnumbers {K : PySem.W.Frag} {H : Hp} {vs : List V} {Q : VK} {E : XK} {N : List Str} (h : sp_lnumbers K vs H Q E) (hN : N.length = 4 := by rfl) : t_lnumbers K { nx := fun _ H' => Q .non H', rt := Q } (start N vs) H := by
  have h : spI K cx0 (oL3 rScr rI rI) (aOne (ir rI)) (fs (oL rI)) (fun (s : ((List Int) × Int × Int)) (a : Int) => (M_lnumbers (some s, some a, none, none, ())).runI l_lnumbers_0 none) vs H Q E := h
  refine d_I (dn := none) (ra := (aOne (ir rI))) (e0 := fun (s : ((List Int) × Int × Int)) (a : Int) => (some s, some a, none, none, ())) (sx_lnumbers) a_lnumbers_0 ?_ ?_ h
  · intro G H p ho st ws a k1 k2 k3 s hr
    obtain ⟨v1, rfl, h1⟩ := hr
    rw [show start N [.ref p, v1] = [some (.ref p), some v1, none, none] by simp [L2.start, hN]]
    exact e_io k1 k2 k3 rfl ⟨rfl, rfl⟩ (e_fr h1 (e_owN (e_frN e_nil)))
  · intro b h; cases h
abbrev E_lsets : Type := Option ((List Int) × Int × Int) × Option (List ((List Int) × Th)) × Option Int × Option Th × Unit
def R_lsets : ERep E_lsets := (eIo 0 (oL3 rScr rI rI) (eOw (oL (rz (oT2 (rz (oT rI)) rTh))) (eFr rI (eFr rTh eNil))))
abbrev l_lsets_0 : Ln E_lsets ((List Int) × Int × Int) := Ln.z
theorem a_lsets_0 : OwAt R_lsets 0 (ownI 0) (oL3 rScr rI rI) l_lsets_0 := OwAt.z
abbrev l_lsets_1 : Ln E_lsets (List ((List Int) × Th)) := (Ln.s Ln.z)
theorem a_lsets_1 : OwAt R_lsets 1 ownN (oL (rz (oT2 (rz (oT rI)) rTh))) l_lsets_1 := (OwAt.sO OwAt.z)
abbrev l_lsets_2 : Ln E_lsets Int := (Ln.s (Ln.s Ln.z))
theorem a_lsets_2 : FrAt R_lsets 2 rI l_lsets_2 := (FrAt.sO (FrAt.sO FrAt.z))
abbrev l_lsets_3 : Ln E_lsets Th := (Ln.s (Ln.s (Ln.s Ln.z)))
theorem a_lsets_3 : FrAt R_lsets 3 rTh l_lsets_3 := (FrAt.sO (FrAt.sO (FrAt.sF FrAt.z)))
def M_lsets : E_lsets → So E_lsets (List ((List Int) × Th)) :=
    (mSeq (mSet l_lsets_1 (mUn szOk (mC ([] : List ((List Int) × Th)))))
    (mCut (mKill (fun e => (Ln.put l_lsets_2 none (Ln.put l_lsets_3 none e))) (mFor (mRng1 (mOp gAdd (mC (1 : Int)) (mCallI l_lsets_0 (fun s p => m_ldraw s p) (mC (5 : Int))))) (pN l_lsets_2)
    (mKill (fun e => (Ln.put l_lsets_2 none (Ln.put l_lsets_3 none e))) (mSeq (mSet l_lsets_3 (mUn (toTh (fun _ => Th.non)) (mC ())))
    (mCut (mIfS (mOp gEq (mCallI l_lsets_0 (fun s p => m_ldraw s p) (mC (2 : Int))) (mC (0 : Int))) (mSet l_lsets_3 (mUn (toTh (fun xs => Th.tup (List.map (fun t => t) xs))) (mUn szOk (mCons (mUn (toTh Th.int) (mCallI l_lsets_0 (fun s p => m_lfar s ) (mC ()))) (mCons (mUn (toTh (fun xs => Th.tup (List.map Th.int xs))) (mCallI l_lsets_0 (fun s p => m_lface s (p.1) (p.2)) (mPair (mC (0 : Int)) (mC (6 : Int))))) (mC [])))))) mNext)
    (mDrop (mBM l_lsets_1 gApp (mUn some (mPair (mUn gId (mCallI l_lsets_0 (fun s p => m_lnumbers s p) (mC (0 : Int)))) (mVar l_lsets_3))))))))))
    (mRet (mOpL gCat l_lsets_1 (mSlL gCut l_lsets_1 (mC none) (mPart (mCallI l_lsets_0 (fun s p => m_ldraw s p) (mC (2 : Int)))))))))
def m_lsets (x0 : ((List Int) × Int × Int)) : Rs ((List Int) × Int × Int) (List ((List Int) × Th)) := (M_lsets (some x0, none, none, none, ())).runI l_lsets_0 none
abbrev u_lsets (s : ((List Int) × Int × Int)) (p : Unit) : Rs ((List Int) × Int × Int) (List ((List Int) × Th)) := m_lsets s
def sp_lsets (K : PySem.W.Frag) : Sp := spI K cx0 (oL3 rScr rI rI) aNil (fs (oL (rz (oT2 (rz (oT rI)) rTh)))) u_lsets
theorem len_lsets (K : PySem.W.Frag) : ∀ vs H Q E, sp_lsets K vs H Q E → vs.length = 1 := len_I ALen.nil
def t_lsets (K : PySem.W.Frag) : TS :=
    (tSeq (tAsg (tLst tNil) (gName 1))
    (tSeq (tFor (iRng1 (tCons (tOp rAdd (tC (.int 1)) (tCall (sp_ldraw K) [] E0 (tCons (tVar 0) (tCons (tC (.int 5)) tNil)))) tNil)) (gName 2)
    (tSeq (tAsg (tC .non) (gName 3))
    (tCut (tIfS (tTest (tOp rEq (tCall (sp_ldraw K) [] E0 (tCons (tVar 0) (tCons (tC (.int 2)) tNil))) (tC (.int 0)))) (tAsg (tTup (tCons (tCall (sp_lfar K) [] E0 (tCons (tVar 0) tNil)) (tCons (tCall (sp_lface K) [] E0 (tCons (tVar 0) (tCons (tC (.int 0)) (tCons (tC (.int 6)) tNil)))) tNil))) (gName 3)) tNext)
    (tDrop (tBM K "list" rAppend (tVar 1) (tCons (tTup (tCons (tCB (rTupOf K) (tCons (tCall (sp_lnumbers K) [] E0 (tCons (tVar 0) (tCons (tC (.int 0)) tNil))) tNil)) (tCons (tVar 3) tNil))) tNil))))))
    (tRet (tOp rCat (tVar 1) (tSl (rSlL K) (tVar 1) tNoPart (tPart (tCall (sp_ldraw K) [] E0 (tCons (tVar 0) (tCons (tC (.int 2)) tNil)))))))))
theorem sx_lsets {K : PySem.W.Frag} : SX ⟨K, E0, cx0⟩ R_lsets (fs (oL (rz (oT2 (rz (oT rI)) rTh)))) (t_lsets K) M_lsets :=
    (s_seq (s_setO a_lsets_1 (x_lst (x_lnil (r := (rz (oT2 (rz (oT rI)) rTh))))))
    (s_seqC (s_kill (Kl.and (Kl.fr a_lsets_2) (Kl.fr a_lsets_3)) (s_for (vs := [2]) (x_rng1 (x_aone (x_is Cv.id (x_tOp v_add Cv.id (x_c fun _ => rfl) (x_is Cv.id (x_callI a_lsets_0 ownI_q (x_pone Cv.id (x_c fun _ => rfl)))))))) (n_name a_lsets_2 (by decide))
    (s_kill (Kl.and (Kl.fr a_lsets_2) (Kl.fr a_lsets_3)) (s_seq (s_set a_lsets_3 (x_cast ci_N (x_c fun _ => rfl)))
    (s_cutC (s_if (x_test (x_tOp v_eqI Cv.id (x_callI a_lsets_0 ownI_q (x_pone Cv.id (x_c fun _ => rfl))) (x_is Cv.id (x_c fun _ => rfl)))) (s_set a_lsets_3 (x_cast (ci_T ci_id) (x_tup (x_lcons (x_cast ci_I (x_callI a_lsets_0 ownI_q x_pnil)) (x_lcons (x_cast (ci_T ci_I) (x_callI a_lsets_0 ownI_q (x_pcons Cv.id (x_c fun _ => rfl) (x_pone Cv.id (x_c fun _ => rfl))))) x_lnil))))) s_next)
    (s_drop (x_bm v_app ty_L nt_L ownN_q a_lsets_1 (x_gone (x_tup2 (x_p2 (x_tCB v_tupOfL (x_aone (x_is Cv.ob (x_fz (x_callIF a_lsets_0 ownI_q (x_pone Cv.id (x_c fun _ => rfl))))))) (x_var a_lsets_3)))))))))))
    (s_ret (x_tOpLF v_cat (Late.ow a_lsets_1) (x_is Cv.ob (x_fz (x_slLF v_slL (Late.ow a_lsets_1) x_noPart (x_part (x_callI a_lsets_0 ownI_q (x_pone Cv.id (x_c fun _ => rfl)))))))))))
theorem rd_lsets {K : PySem.W.Frag} {H : Hp} {vs : List V} {Q : VK} {E : XK} {N : List Str} (h : sp_lsets K vs H Q E) (hN : N.length = 4 := by rfl) : t_lsets K { nx := fun _ H' => Q .non H', rt := Q } (start N vs) H := by
  have h : spI K cx0 (oL3 rScr rI rI) aNil (fs (oL (rz (oT2 (rz (oT rI)) rTh)))) (fun (s : ((List Int) × Int × Int)) (a : Unit) => (M_lsets (some s, none, none, none, ())).runI l_lsets_0 none) vs H Q E := h
  refine d_I (dn := none) (ra := aNil) (e0 := fun (s : ((List Int) × Int × Int)) (a : Unit) => (some s, none, none, none, ())) (sx_lsets) a_lsets_0 ?_ ?_ h
  · intro G H p ho st ws a k1 k2 k3 s hr
    obtain rfl := hr
    rw [show start N [.ref p] = [some (.ref p), none, none, none] by simp [L2.start, hN]]
    exact e_io k1 k2 k3 rfl ⟨rfl, rfl⟩ (e_owN (e_frN (e_frN e_nil)))
  · intro b h; cases h
abbrev E_lbar : Type := Option ((List Int) × Int × Int) × Option Int × Option Str × Option Th × Option Int × Unit
def R_lbar : ERep E_lbar := (eIo 0 (oL3 rScr rI rI) (eFr rI (eFr rS (eFr rTh (eFr rI eNil)))))
abbrev l_lbar_0 : Ln E_lbar ((List Int) × Int × Int) := Ln.z
theorem a_lbar_0 : OwAt R_lbar 0 (ownI 0) (oL3 rScr rI rI) l_lbar_0 := OwAt.z
abbrev l_lbar_1 : Ln E_lbar Int := (Ln.s Ln.z)
theorem a_lbar_1 : FrAt R_lbar 1 rI l_lbar_1 := (FrAt.sO FrAt.z)
abbrev l_lbar_2 : Ln E_lbar Str := (Ln.s (Ln.s Ln.z))
theorem a_lbar_2 : FrAt R_lbar 2 rS l_lbar_2 := (FrAt.sO (FrAt.sF FrAt.z))
abbrev l_lbar_3 : Ln E_lbar Th := (Ln.s (Ln.s (Ln.s Ln.z)))
theorem a_lbar_3 : FrAt R_lbar 3 rTh l_lbar_3 := (FrAt.sO (FrAt.sF (FrAt.sF FrAt.z)))
abbrev l_lbar_4 : Ln E_lbar Int := (Ln.s (Ln.s (Ln.s (Ln.s Ln.z))))
theorem a_lbar_4 : FrAt R_lbar 4 rI l_lbar_4 := (FrAt.sO (FrAt.sF (FrAt.sF (FrAt.sF FrAt.z))))
def M_lbar : E_lbar → So E_lbar Th :=
    (mSeq (mSet l_lbar_2 (mOp gIx (mUn szOk (mCons (mC ("apart" : Str)) (mCons (mC ("counts" : Str)) (mCons (mC ("unlike" : Str)) (mCons (mC ("evens" : Str)) (mCons (mC ("sets" : Str)) (mCons (mC ("sets" : Str)) (mC [])))))))) (mCallI l_lbar_0 (fun s p => m_ldraw s p) (mC (6 : Int)))))
    (mSeq (mSet l_lbar_3 (mUn (toTh (fun xs => Th.tup (List.map (fun t => t) xs))) (mUn szOk (mCons (mUn (toTh Th.str) (mVar l_lbar_2)) (mCons (mUn (toTh Th.int) (mCallI l_lbar_0 (fun s p => m_lfar s ) (mC ()))) (mC []))))))
    (mCut (mIfS (mOp gEq (mVar l_lbar_2) (mC ("apart" : Str))) (mSet l_lbar_3 (mUn (toTh (fun xs => Th.tup (List.map (fun t => t) xs))) (mUn szOk (mCons (mUn (toTh Th.str) (mVar l_lbar_2)) (mCons (mUn (toTh (fun xs => Th.lst (List.map Th.int xs))) (mCallI l_lbar_0 (fun s p => m_lnumbers s p) (mC (1 : Int)))) (mC [])))))) mNext)
    (mCut (mIfS (mOp gEq (mVar l_lbar_2) (mC ("evens" : Str))) (mSet l_lbar_3 (mUn (toTh (fun xs => Th.tup (List.map (fun t => t) xs))) (mUn szOk (mCons (mUn (toTh Th.str) (mVar l_lbar_2)) (mCons (mUn (toTh (fun xs => Th.lst (List.map (fun t => t) xs))) (mLc (mRng1 (mOp gAdd (mC (1 : Int)) (mCallI l_lbar_0 (fun s p => m_ldraw s p) (mC (4 : Int))))) (pN l_lbar_4) mYes (mUn (toTh (fun xs => Th.lst (List.map Th.int xs))) (mCallI l_lbar_0 (fun s p => m_lnumbers s p) (mC (1 : Int)))) (fun e => Ln.put l_lbar_4 none (id e)) (fun e e1 => (fun _ e1 => e1) e (Ln.put l_lbar_4 (Ln.get l_lbar_4 (id e)) e1)))) (mC [])))))) mNext)
    (mCut (mIfS (mOp gEq (mVar l_lbar_2) (mC ("sets" : Str))) (mSet l_lbar_3 (mUn (toTh (fun xs => Th.tup (List.map (fun t => t) xs))) (mUn szOk (mCons (mUn (toTh Th.str) (mVar l_lbar_2)) (mCons (mUn (toTh (fun xs => Th.lst (List.map (fun p => Th.tup [(fun xs => Th.tup (List.map Th.int xs)) p.1, (fun t => t) p.2]) xs))) (mCallI l_lbar_0 (fun s p => m_lsets s ) (mC ()))) (mC [])))))) mNext)
    (mCut (mKill (fun e => (Ln.put l_lbar_4 none e)) (mFor (mRng1 (mVar l_lbar_1)) (pN l_lbar_4)
    (mKill (fun e => (Ln.put l_lbar_4 none e)) (mSet l_lbar_3 (mUn (toTh (fun xs => Th.tup (List.map (fun t => t) xs))) (mUn szOk (mCons (mUn (toTh Th.str) (mC ("link" : Str))) (mCons (mUn (toTh (fun xs => Th.tup (List.map Th.int xs))) (mCallI l_lbar_0 (fun s p => m_lface s (p.1) (p.2)) (mPair (mC (1 : Int)) (mC (6 : Int))))) (mCons (mVar l_lbar_3) (mC []))))))))))
    (mRet (mVar l_lbar_3))))))))
def m_lbar (x0 : ((List Int) × Int × Int)) (x1 : Int) : Rs ((List Int) × Int × Int) Th := (M_lbar (some x0, some x1, none, none, none, ())).runI l_lbar_0 none
abbrev u_lbar (s : ((List Int) × Int × Int)) (p : Int) : Rs ((List Int) × Int × Int) Th := m_lbar s p
def sp_lbar (K : PySem.W.Frag) : Sp := spI K cx0 (oL3 rScr rI rI) (aOne (ir rI)) (fz rTh) u_lbar
theorem len_lbar (K : PySem.W.Frag) : ∀ vs H Q E, sp_lbar K vs H Q E → vs.length = 2 := len_I ALen.one
def t_lbar (K : PySem.W.Frag) : TS :=
    (tSeq (tAsg (tOp (rIxL K) (tLst (tCons (tC (.str "apart")) (tCons (tC (.str "counts")) (tCons (tC (.str "unlike")) (tCons (tC (.str "evens")) (tCons (tC (.str "sets")) (tCons (tC (.str "sets")) tNil))))))) (tCall (sp_ldraw K) [] E0 (tCons (tVar 0) (tCons (tC (.int 6)) tNil)))) (gName 2))
    (tSeq (tAsg (tTup (tCons (tVar 2) (tCons (tCall (sp_lfar K) [] E0 (tCons (tVar 0) tNil)) tNil))) (gName 3))
    (tCut (tIfS (tTest (tOp rEq (tVar 2) (tC (.str "apart")))) (tAsg (tTup (tCons (tVar 2) (tCons (tCall (sp_lnumbers K) [] E0 (tCons (tVar 0) (tCons (tC (.int 1)) tNil))) tNil))) (gName 3)) tNext)
    (tCut (tIfS (tTest (tOp rEq (tVar 2) (tC (.str "evens")))) (tAsg (tTup (tCons (tVar 2) (tCons (tLc (iRng1 (tCons (tOp rAdd (tC (.int 1)) (tCall (sp_ldraw K) [] E0 (tCons (tVar 0) (tCons (tC (.int 4)) tNil)))) tNil)) (gName 4) tYes (tCall (sp_lnumbers K) [] E0 (tCons (tVar 0) (tCons (tC (.int 1)) tNil))) [4]) tNil))) (gName 3)) tNext)
    (tCut (tIfS (tTest (tOp rEq (tVar 2) (tC (.str "sets")))) (tAsg (tTup (tCons (tVar 2) (tCons (tCall (sp_lsets K) [] E0 (tCons (tVar 0) tNil)) tNil))) (gName 3)) tNext)
    (tSeq (tFor (iRng1 (tCons (tVar 1) tNil)) (gName 4)
    (tAsg (tTup (tCons (tC (.str "link")) (tCons (tCall (sp_lface K) [] E0 (tCons (tVar 0) (tCons (tC (.int 1)) (tCons (tC (.int 6)) tNil)))) (tCons (tVar 3) tNil)))) (gName 3)))
    (tRet (tVar 3))))))))
theorem sx_lbar {K : PySem.W.Frag} : SX ⟨K, E0, cx0⟩ R_lbar (fz rTh) (t_lbar K) M_lbar :=
    (s_seq (s_set a_lbar_2 (x_tOp v_ixL Cv.ob (x_fz (x_lst (x_lcons (x_c fun _ => rfl) (x_lcons (x_c fun _ => rfl) (x_lcons (x_c fun _ => rfl) (x_lcons (x_c fun _ => rfl) (x_lcons (x_c fun _ => rfl) (x_lcons (x_c fun _ => rfl) x_lnil)))))))) (x_is Cv.id (x_callI a_lbar_0 ownI_q (x_pone Cv.id (x_c fun _ => rfl))))))
    (s_seq (s_set a_lbar_3 (x_cast (ci_T ci_id) (x_tup (x_lcons (x_cast ci_S (x_var a_lbar_2)) (x_lcons (x_cast ci_I (x_callI a_lbar_0 ownI_q x_pnil)) x_lnil)))))
    (s_cutC (s_if (x_test (x_tOp v_eqS Cv.id (x_var a_lbar_2) (x_is Cv.id (x_c fun _ => rfl)))) (s_set a_lbar_3 (x_cast (ci_T ci_id) (x_tup (x_lcons (x_cast ci_S (x_var a_lbar_2)) (x_lcons (x_cast (ci_L ci_I) (x_fz (x_callIF a_lbar_0 ownI_q (x_pone Cv.id (x_c fun _ => rfl))))) x_lnil))))) s_next)
    (s_cutC (s_if (x_test (x_tOp v_eqS Cv.id (x_var a_lbar_2) (x_is Cv.id (x_c fun _ => rfl)))) (s_set a_lbar_3 (x_cast (ci_T ci_id) (x_tup (x_lcons (x_cast ci_S (x_var a_lbar_2)) (x_lcons (x_cast (ci_L ci_id) (x_fz (x_lc (x_rng1 (x_aone (x_is Cv.id (x_tOp v_add Cv.id (x_c fun _ => rfl) (x_is Cv.id (x_callI a_lbar_0 ownI_q (x_pone Cv.id (x_c fun _ => rfl)))))))) (Wp.cons a_lbar_4 Wp.nil) (n_name a_lbar_4 (by decide)) x_yes (x_cast (ci_L ci_I) (x_fz (x_callIF a_lbar_0 ownI_q (x_pone Cv.id (x_c fun _ => rfl)))))))) x_lnil))))) s_next)
    (s_cutC (s_if (x_test (x_tOp v_eqS Cv.id (x_var a_lbar_2) (x_is Cv.id (x_c fun _ => rfl)))) (s_set a_lbar_3 (x_cast (ci_T ci_id) (x_tup (x_lcons (x_cast ci_S (x_var a_lbar_2)) (x_lcons (x_cast (ci_L (ci_T2 (ci_T ci_I) ci_id)) (x_fz (x_callIF a_lbar_0 ownI_q x_pnil))) x_lnil))))) s_next)
    (s_seqC (s_kill (Kl.fr a_lbar_4) (s_for (vs := [4]) (x_rng1 (x_aone (x_is Cv.id (x_var a_lbar_1)))) (n_name a_lbar_4 (by decide))
    (s_kill (Kl.fr a_lbar_4) (s_set a_lbar_3 (x_cast (ci_T ci_id) (x_tup (x_lcons (x_cast ci_S (x_c fun _ => rfl)) (x_lcons (x_cast (ci_T ci_I) (x_callI a_lbar_0 ownI_q (x_pcons Cv.id (x_c fun _ => rfl) (x_pone Cv.id (x_c fun _ => rfl))))) (x_lcons (x_var a_lbar_3) x_lnil)))))))))
    (s_ret (x_var a_lbar_3))))))))
theorem rd_lbar {K : PySem.W.Frag} {H : Hp} {vs : List V} {Q : VK} {E : XK} {N : List Str} (h : sp_lbar K vs H Q E) (hN : N.length = 5 := by rfl) : t_lbar K { nx := fun _ H' => Q .non H', rt := Q } (start N vs) H := by
  have h : spI K cx0 (oL3 rScr rI rI) (aOne (ir rI)) (fz rTh) (fun (s : ((List Int) × Int × Int)) (a : Int) => (M_lbar (some s, some a, none, none, none, ())).runI l_lbar_0 none) vs H Q E := h
  refine d_I (dn := none) (ra := (aOne (ir rI))) (e0 := fun (s : ((List Int) × Int × Int)) (a : Int) => (some s, some a, none, none, none, ())) (sx_lbar) a_lbar_0 ?_ ?_ h
  · intro G H p ho st ws a k1 k2 k3 s hr
    obtain ⟨v1, rfl, h1⟩ := hr
    rw [show start N [.ref p, v1] = [some (.ref p), some v1, none, none, none] by simp [L2.start, hN]]
    exact e_io k1 k2 k3 rfl ⟨rfl, rfl⟩ (e_fr h1 (e_frN (e_frN (e_frN e_nil))))
  · intro b h; cases h
abbrev E_lbar_lines : Type := Option Th × Option (List Str) × Option (List Int) × Option Th × Option (List Int) × Unit
def R_lbar_lines : ERep E_lbar_lines := (eFr rTh (eOw (oL rS) (eFr (rz (oT rI)) (eFr rTh (eFr (rz (oL rI)) eNil)))))
abbrev l_lbar_lines_0 : Ln E_lbar_lines Th := Ln.z
theorem a_lbar_lines_0 : FrAt R_lbar_lines 0 rTh l_lbar_lines_0 := FrAt.z
abbrev l_lbar_lines_1 : Ln E_lbar_lines (List Str) := (Ln.s Ln.z)
theorem a_lbar_lines_1 : OwAt R_lbar_lines 1 ownN (oL rS) l_lbar_lines_1 := (OwAt.sF OwAt.z)
abbrev l_lbar_lines_2 : Ln E_lbar_lines (List Int) := (Ln.s (Ln.s Ln.z))
theorem a_lbar_lines_2 : FrAt R_lbar_lines 2 (rz (oT rI)) l_lbar_lines_2 := (FrAt.sF (FrAt.sO FrAt.z))
abbrev l_lbar_lines_3 : Ln E_lbar_lines Th := (Ln.s (Ln.s (Ln.s Ln.z)))
theorem a_lbar_lines_3 : FrAt R_lbar_lines 3 rTh l_lbar_lines_3 := (FrAt.sF (FrAt.sO (FrAt.sF FrAt.z)))
abbrev l_lbar_lines_4 : Ln E_lbar_lines (List Int) := (Ln.s (Ln.s (Ln.s (Ln.s Ln.z))))
theorem a_lbar_lines_4 : FrAt R_lbar_lines 4 (rz (oL rI)) l_lbar_lines_4 := (FrAt.sF (FrAt.sO (FrAt.sF (FrAt.sF FrAt.z))))
def M_lbar_lines (rc : (Th) → Rs Unit (List Str)) : E_lbar_lines → So E_lbar_lines (List Str) :=
    (mSeq (mIfS (mOp gEq (mUn asS (mOp gIx (mUn asT (mVar l_lbar_lines_0)) (mC (0 : Int)))) (mC ("link" : Str))) (mRet (mOp gCat (mUn szOk (mCons (mCall (fun p => m_lline (p.1) (p.2)) (mPair (mC ("link" : Str)) (mUn (asTs asI) (mOp gIx (mUn asT (mVar l_lbar_lines_0)) (mC (1 : Int)))))) (mC []))) (mCall rc (mOp gIx (mUn asT (mVar l_lbar_lines_0)) (mC (2 : Int)))))) mNext)
    (mSeq (mIfS (mOp gEq (mUn asS (mOp gIx (mUn asT (mVar l_lbar_lines_0)) (mC (0 : Int)))) (mC ("apart" : Str))) (mRet (mUn szOk (mCons (mCall (fun p => m_lline_l (p.1) (p.2)) (mPair (mC ("apart" : Str)) (mUn (asLs asI) (mOp gIx (mUn asT (mVar l_lbar_lines_0)) (mC (1 : Int)))))) (mC [])))) mNext)
    (mSeq (mIfS (mOp gEq (mUn asS (mOp gIx (mUn asT (mVar l_lbar_lines_0)) (mC (0 : Int)))) (mC ("evens" : Str))) (mRet (mLc (mUn (asLs (asLs asI)) (mOp gIx (mUn asT (mVar l_lbar_lines_0)) (mC (1 : Int)))) (pN l_lbar_lines_4) mYes (mCall (fun p => m_lline_l (p.1) (p.2)) (mPair (mC ("even" : Str)) (mVar l_lbar_lines_4))) (fun e => Ln.put l_lbar_lines_4 none (id e)) (fun e e1 => (fun _ e1 => e1) e (Ln.put l_lbar_lines_4 (Ln.get l_lbar_lines_4 (id e)) e1)))) mNext)
    (mSeq (mIfS (mOp gNe (mUn asS (mOp gIx (mUn asT (mVar l_lbar_lines_0)) (mC (0 : Int)))) (mC ("sets" : Str))) (mRet (mUn szOk (mCons (mCall (fun p => m_lline (p.1) (p.2)) (mPair (mUn asS (mOp gIx (mUn asT (mVar l_lbar_lines_0)) (mC (0 : Int)))) (mUn szOk (mCons (mUn asI (mOp gIx (mUn asT (mVar l_lbar_lines_0)) (mC (1 : Int)))) (mC []))))) (mC [])))) mNext)
    (mSeq (mSet l_lbar_lines_1 (mUn szOk (mC ([] : List Str))))
    (mCut (mKill (fun e => (Ln.put l_lbar_lines_2 none (Ln.put l_lbar_lines_3 none e))) (mFor (mUn (asLs (asT2 (asTs asI) (fun t => some t))) (mOp gIx (mUn asT (mVar l_lbar_lines_0)) (mC (1 : Int)))) (p2 (pN l_lbar_lines_2) (pN l_lbar_lines_3))
    (mKill (fun e => (Ln.put l_lbar_lines_2 none (Ln.put l_lbar_lines_3 none e))) (mIfS (mOp gIsNTh (mVar l_lbar_lines_3) (mC ())) (mDrop (mBM l_lbar_lines_1 gApp (mCall (fun p => m_lline (p.1) (p.2)) (mPair (mC ("set" : Str)) (mVar l_lbar_lines_2))))) (mDrop (mBM l_lbar_lines_1 gApp (mOp gAddS (mOp gAddS (mCall (fun p => m_lline (p.1) (p.2)) (mPair (mC ("cut" : Str)) (mVar l_lbar_lines_2))) (mC (" " : Str))) (mCall (fun p => m_lline (p.1) (p.2)) (mPair (mC ("by" : Str)) (mOp gCat (mUn szOk (mCons (mOp gFst (mUn (asT2 asI (asTs asI)) (mVar l_lbar_lines_3)) (mC (0 : Int))) (mC []))) (mOp gSnd (mUn (asT2 asI (asTs asI)) (mVar l_lbar_lines_3)) (mC (1 : Int)))))))))))))
    (mRet (mMove l_lbar_lines_1))))))))
def m_lbar_lines : Nat → Th → Rs Unit (List Str)
  | 0, _ => .bad
  | d + 1, x0 => (M_lbar_lines (fun p => m_lbar_lines d p) (some x0, none, none, none, none, ())).run none
abbrev u_lbar_lines (d : Nat) (p : Th) : Rs Unit (List Str) := m_lbar_lines d p
def sp_lbar_lines (K : PySem.W.Frag) (d : Nat) : Sp := spD K cx0 (aOne (ir rTh)) (fs (oL rS)) (u_lbar_lines d)
theorem never_lbar_lines {K : PySem.W.Frag} : ∀ vs H Q E, ¬ sp_lbar_lines K 0 vs H Q E := never_D fun _ => rfl
theorem len_lbar_lines (K : PySem.W.Frag) (d : Nat) : ∀ vs H Q E, sp_lbar_lines K d vs H Q E → vs.length = 1 := len_D ALen.one
def t_lbar_lines (K : PySem.W.Frag) (sr : Sp) : TS :=
    (tSeq (tIfS (tTest (tOp rEq (tOp (rIxT K) (tVar 0) (tC (.int 0))) (tC (.str "link")))) (tRet (tOp rCat (tLst (tCons (tCall (sp_lline K) [] E0 (tCons (tC (.str "link")) (tCons (tOp (rIxT K) (tVar 0) (tC (.int 1))) tNil))) tNil)) (tCall sr [] E0 (tCons (tOp (rIxT K) (tVar 0) (tC (.int 2))) tNil)))) tNext)
    (tSeq (tIfS (tTest (tOp rEq (tOp (rIxT K) (tVar 0) (tC (.int 0))) (tC (.str "apart")))) (tRet (tLst (tCons (tCall (sp_lline_l K) [] E0 (tCons (tC (.str "apart")) (tCons (tOp (rIxT K) (tVar 0) (tC (.int 1))) tNil))) tNil))) tNext)
    (tSeq (tIfS (tTest (tOp rEq (tOp (rIxT K) (tVar 0) (tC (.int 0))) (tC (.str "evens")))) (tRet (tLc (iList K (tOp (rIxT K) (tVar 0) (tC (.int 1)))) (gName 4) tYes (tCall (sp_lline_l K) [] E0 (tCons (tC (.str "even")) (tCons (tVar 4) tNil))) [4])) tNext)
    (tSeq (tIfS (tTest (tOp rNe (tOp (rIxT K) (tVar 0) (tC (.int 0))) (tC (.str "sets")))) (tRet (tLst (tCons (tCall (sp_lline K) [] E0 (tCons (tOp (rIxT K) (tVar 0) (tC (.int 0))) (tCons (tTup (tCons (tOp (rIxT K) (tVar 0) (tC (.int 1))) tNil)) tNil))) tNil))) tNext)
    (tSeq (tAsg (tLst tNil) (gName 1))
    (tSeq (tFor (iList K (tOp (rIxT K) (tVar 0) (tC (.int 1)))) (gTup K 2 (gCons (gName 2) (gCons (gName 3) gNil)))
    (tIfS (tTest (tOp rIsN (tVar 3) (tC .non))) (tDrop (tBM K "list" rAppend (tVar 1) (tCons (tCall (sp_lline K) [] E0 (tCons (tC (.str "set")) (tCons (tVar 2) tNil))) tNil))) (tDrop (tBM K "list" rAppend (tVar 1) (tCons (tOp rAddS (tOp rAddS (tCall (sp_lline K) [] E0 (tCons (tC (.str "cut")) (tCons (tVar 2) tNil))) (tC (.str " "))) (tCall (sp_lline K) [] E0 (tCons (tC (.str "by")) (tCons (tOp (rCatA K) (tTup (tCons (tOp (rIxT K) (tVar 3) (tC (.int 0))) tNil)) (tOp (rIxT K) (tVar 3) (tC (.int 1)))) tNil)))) tNil)))))
    (tRet (tVar 1))))))))
theorem sx_lbar_lines {K : PySem.W.Frag} (rc : (Th) → Rs Unit (List Str)) : SX ⟨K, E0, cx0⟩ R_lbar_lines (fs (oL rS)) (t_lbar_lines K (spD K cx0 (aOne (ir rTh)) (fs (oL rS)) rc)) (M_lbar_lines rc) :=
    (s_seq (s_if (x_test (x_tOp v_eqS Cv.id (x_cast c_asS (x_tOp v_ixT Cv.ob (x_cast c_asT (x_var a_lbar_lines_0)) (x_is Cv.id (x_c fun _ => rfl)))) (x_is Cv.id (x_c fun _ => rfl)))) (s_ret (x_tOpF v_cat Cv.ob (x_fz (x_lst (x_lcons (x_call (x_acons Cv.id (x_c fun _ => rfl) (x_aone (x_is Cv.id (x_cast (c_asTs c_asI) (x_tOp v_ixT Cv.ob (x_cast c_asT (x_var a_lbar_lines_0)) (x_is Cv.id (x_c fun _ => rfl)))))))) x_lnil))) (x_is Cv.ob (x_fz (x_callF (x_aone (x_is Cv.id (x_tOp v_ixT Cv.ob (x_cast c_asT (x_var a_lbar_lines_0)) (x_is Cv.id (x_c fun _ => rfl)))))))))) s_next)
    (s_seq (s_if (x_test (x_tOp v_eqS Cv.id (x_cast c_asS (x_tOp v_ixT Cv.ob (x_cast c_asT (x_var a_lbar_lines_0)) (x_is Cv.id (x_c fun _ => rfl)))) (x_is Cv.id (x_c fun _ => rfl)))) (s_ret (x_lst (x_lcons (x_call (x_acons Cv.id (x_c fun _ => rfl) (x_aone (x_is Cv.ob (x_cast (c_asLs c_asI) (x_tOp v_ixT Cv.ob (x_cast c_asT (x_var a_lbar_lines_0)) (x_is Cv.id (x_c fun _ => rfl)))))))) x_lnil))) s_next)
    (s_seq (s_if (x_test (x_tOp v_eqS Cv.id (x_cast c_asS (x_tOp v_ixT Cv.ob (x_cast c_asT (x_var a_lbar_lines_0)) (x_is Cv.id (x_c fun _ => rfl)))) (x_is Cv.id (x_c fun _ => rfl)))) (s_ret (x_lc (x_iL (x_cast (c_asLs (c_asLs c_asI)) (x_tOp v_ixT Cv.ob (x_cast c_asT (x_var a_lbar_lines_0)) (x_is Cv.id (x_c fun _ => rfl))))) (Wp.cons a_lbar_lines_4 Wp.nil) (n_name a_lbar_lines_4 (by decide)) x_yes (x_call (x_acons Cv.id (x_c fun _ => rfl) (x_aone (x_is Cv.ob (x_var a_lbar_lines_4))))))) s_next)
    (s_seq (s_if (x_test (x_tOp v_neS Cv.id (x_cast c_asS (x_tOp v_ixT Cv.ob (x_cast c_asT (x_var a_lbar_lines_0)) (x_is Cv.id (x_c fun _ => rfl)))) (x_is Cv.id (x_c fun _ => rfl)))) (s_ret (x_lst (x_lcons (x_call (x_acons Cv.id (x_cast c_asS (x_tOp v_ixT Cv.ob (x_cast c_asT (x_var a_lbar_lines_0)) (x_is Cv.id (x_c fun _ => rfl)))) (x_aone (x_is Cv.id (x_tup (x_lcons (x_cast c_asI (x_tOp v_ixT Cv.ob (x_cast c_asT (x_var a_lbar_lines_0)) (x_is Cv.id (x_c fun _ => rfl)))) x_lnil)))))) x_lnil))) s_next)
    (s_seq (s_setO a_lbar_lines_1 (x_lst (x_lnil (r := rS))))
    (s_seqC (s_kill (Kl.and (Kl.fr a_lbar_lines_2) (Kl.fr a_lbar_lines_3)) (s_for (vs := [2, 3]) (x_iL (x_cast (c_asLs (c_asT2 (c_asTs c_asI) c_th)) (x_tOp v_ixT Cv.ob (x_cast c_asT (x_var a_lbar_lines_0)) (x_is Cv.id (x_c fun _ => rfl))))) (n_tup2 (n_name a_lbar_lines_2 (by decide)) (n_name a_lbar_lines_3 (by decide)))
    (s_kill (Kl.and (Kl.fr a_lbar_lines_2) (Kl.fr a_lbar_lines_3)) (s_if (x_test (x_tOp v_isNTh Cv.id (x_var a_lbar_lines_3) (x_is Cv.id (x_c fun _ => rfl)))) (s_drop (x_bm v_app ty_L nt_L ownN_q a_lbar_lines_1 (x_gone (x_call (x_acons Cv.id (x_c fun _ => rfl) (x_aone (x_is Cv.id (x_var a_lbar_lines_2)))))))) (s_drop (x_bm v_app ty_L nt_L ownN_q a_lbar_lines_1 (x_gone (x_tOp v_addS Cv.id (x_tOp v_addS Cv.id (x_call (x_acons Cv.id (x_c fun _ => rfl) (x_aone (x_is Cv.id (x_var a_lbar_lines_2))))) (x_is Cv.id (x_c fun _ => rfl))) (x_is Cv.id (x_call (x_acons Cv.id (x_c fun _ => rfl) (x_aone (x_is Cv.id (x_tOp v_catT Cv.id (x_tup (x_lcons (x_tOp v_t20 Cv.ob (x_cast (c_asT2 c_asI (c_asTs c_asI)) (x_var a_lbar_lines_3)) (x_is Cv.id (x_c fun _ => rfl))) x_lnil)) (x_is Cv.id (x_tOp v_t21 Cv.ob (x_cast (c_asT2 c_asI (c_asTs c_asI)) (x_var a_lbar_lines_3)) (x_is Cv.id (x_c fun _ => rfl))))))))))))))))))
    (s_ret (x_move a_lbar_lines_1))))))))
theorem rd_lbar_lines {K : PySem.W.Frag} {d : Nat} {H : Hp} {vs : List V} {Q : VK} {E : XK} {N : List Str} (h : sp_lbar_lines K (d + 1) vs H Q E) (hN : N.length = 5 := by rfl) : t_lbar_lines K (sp_lbar_lines K d) { nx := fun _ H' => Q .non H', rt := Q } (start N vs) H := by
  have h : spD K cx0 (aOne (ir rTh)) (fs (oL rS)) (fun (a : Th) => ((M_lbar_lines (u_lbar_lines d)) (some a, none, none, none, none, ())).run none) vs H Q E := h
  refine d_D (dn := none) (ra := (aOne (ir rTh))) (e0 := fun (a : Th) => (some a, none, none, none, none, ())) (sx_lbar_lines (u_lbar_lines d)) ?_ ?_ h
  · intro G H vs a s hr
    obtain ⟨v0, rfl, h0⟩ := hr
    rw [show start N [v0] = [some v0, none, none, none, none] by simp [L2.start, hN]]
    exact (e_fr h0 (e_owN (e_frN (e_frN (e_frN e_nil)))))
  · intro b h; cases h
abbrev E_lright : Type := Option Th × Option Str × Option Str × Option Str × Option Th × Unit
def R_lright : ERep E_lright := (eFr rTh (eFr rS (eFr rS (eFr rS (eFr rTh eNil)))))
abbrev l_lright_0 : Ln E_lright Th := Ln.z
theorem a_lright_0 : FrAt R_lright 0 rTh l_lright_0 := FrAt.z
abbrev l_lright_1 : Ln E_lright Str := (Ln.s Ln.z)
theorem a_lright_1 : FrAt R_lright 1 rS l_lright_1 := (FrAt.sF FrAt.z)
abbrev l_lright_2 : Ln E_lright Str := (Ln.s (Ln.s Ln.z))
theorem a_lright_2 : FrAt R_lright 2 rS l_lright_2 := (FrAt.sF (FrAt.sF FrAt.z))
abbrev l_lright_3 : Ln E_lright Str := (Ln.s (Ln.s (Ln.s Ln.z)))
theorem a_lright_3 : FrAt R_lright 3 rS l_lright_3 := (FrAt.sF (FrAt.sF (FrAt.sF FrAt.z)))
abbrev l_lright_4 : Ln E_lright Th := (Ln.s (Ln.s (Ln.s (Ln.s Ln.z))))
def RS0_lright : ERep E_lright := (eH (hP rTh) (eFr rS (eFr rS (eFr rS (eH (hN rTh) eNil)))))
def ks0_lright : E_lright → E_lright := (fun e => (e.1, (fun e => (e.1, (fun e => (e.1, (fun e => (e.1, (fun e => (none, id e.2)) e.2)) e.2)) e.2)) e.2))
theorem sc0_lright : ScP R_lright RS0_lright ks0_lright := (ScP.pa (ScP.fr (ScP.fr (ScP.fr (ScP.nw ScP.nil)))))
def ws0_lright : E_lright → E_lright := (fun e => (e.1, (fun e => (e.1, (fun e => (e.1, (fun e => (e.1, (fun e => (none, id e.2)) e.2)) e.2)) e.2)) e.2))
theorem stbs0_lright : Stb RS0_lright ws0_lright := (Stb.pa (Stb.fr st_S (Stb.fr st_S (Stb.fr st_S (Stb.hdK Stb.nil)))))
theorem as0_lright_1 : FrAt (eS RS0_lright) 1 rS l_lright_1 := FrAt.sS (FrAt.sH FrAt.z)
theorem as0_lright_2 : FrAt (eS RS0_lright) 2 rS l_lright_2 := FrAt.sS (FrAt.sH (FrAt.sF FrAt.z))
theorem as0_lright_4 : HdAt (eS RS0_lright) 4 (hN rTh) l_lright_4 := HdAt.sS (HdAt.sH (HdAt.sF (HdAt.sF (HdAt.sF HdAt.z))))
def M_lright : E_lright → So E_lright Bool :=
    (mSeq (mSet l_lright_1 (mUn gReprT (mVar l_lright_0)))
    (mSeq (mSet l_lright_2 (mOp gJoin (mC ("\n" : Str)) (mCall (fun p => m_lbar_lines 6 p) (mVar l_lright_0))))
    (mSeq (mSet l_lright_3 (mCall (fun p => m_show_bar p) (mVar l_lright_0)))
    (mSeq (mIfB (mOr (mNot (mUn (gIsi true) (mPair (mVar l_lright_3) (mC ())))) (mOr (mOp gNe (mVar l_lright_3) (mVar l_lright_2)) (mOp gNe (mUn gReprT (mVar l_lright_0)) (mVar l_lright_1)))) (mRet (mC false)) mNext)
    (mScope ks0_lright (mSeq (mSet l_lright_4 (mCall (fun p => m_read_bar p) (mVar l_lright_2)))
    (mSeq (mIfB (mOr (mOp gNe (mUn gReprT (mVar l_lright_4)) (mVar l_lright_1)) (mOp gNe (mCall (fun p => m_show_bar p) (mVar l_lright_4)) (mVar l_lright_2))) (mRet (mC false)) mNext)
    (mCut (mWhileN (mOp gEq (mUn asS (mOp gIx (mUn asT (mVar l_lright_4)) (mC (0 : Int)))) (mC ("link" : Str))) (mSet l_lright_4 (mSmall l_lright_4 (mOp gIx (mUn asT (mVar (Ln.z : Ln (Option Th × Unit) Th))) (mC (2 : Int))))) 1000000000)
    (mCut (mIfS (mUn (gIsTh "list") (mPair (mOp gIx (mUn asT (mVar l_lright_4)) (mC (1 : Int))) (mC ()))) (mSplN l_lright_4 ws0_lright) mNext)
    (mRet (mOp gEq (mUn gReprT (mCall (fun p => m_read_bar p) (mVar l_lright_2))) (mVar l_lright_1))))))))))))
def m_lright (x0 : Th) : Rs Unit Bool := (M_lright (some x0, none, none, none, none, ())).run none
abbrev u_lright (p : Th) : Rs Unit Bool := m_lright p
def sp_lright (K : PySem.W.Frag) : Sp := spD K cx0 (aOne (ir rTh)) (fz rB) u_lright
theorem len_lright (K : PySem.W.Frag) : ∀ vs H Q E, sp_lright K vs H Q E → vs.length = 1 := len_D ALen.one
def t_lright (K : PySem.W.Frag) : TS :=
    (tSeq (tAsg (tCB rReprT (tCons (tVar 0) tNil)) (gName 1))
    (tSeq (tAsg (tM1 (rJoin K) (tC (.str "\n")) (tCall (sp_lbar_lines K 6) [] E0 (tCons (tVar 0) tNil))) (gName 2))
    (tSeq (tAsg (tCall (sp_show_bar K) [] E0 (tCons (tVar 0) tNil)) (gName 3))
    (tSeq (tIfS (tOr (tNot (tB (tCB (rIsi K) (tCons (tVar 3) (tCons (tC (.ty "str")) tNil))))) (tOr (tTest (tOp rNe (tVar 3) (tVar 2))) (tTest (tOp rNe (tCB rReprT (tCons (tVar 0) tNil)) (tVar 1))))) (tRet (tC (.bl false))) tNext)
    (tSeq (tAsg (tCall (sp_read_bar K) [] E0 (tCons (tVar 2) tNil)) (gName 4))
    (tSeq (tIfS (tOr (tTest (tOp rNe (tCB rReprT (tCons (tVar 4) tNil)) (tVar 1))) (tTest (tOp rNe (tCall (sp_show_bar K) [] E0 (tCons (tVar 4) tNil)) (tVar 2)))) (tRet (tC (.bl false))) tNext)
    (tSeq (tWhile (tTest (tOp rEq (tOp (rIxT K) (tVar 4) (tC (.int 0))) (tC (.str "link")))) (tAsg (tOp (rIxT K) (tVar 4) (tC (.int 2))) (gName 4)))
    (tCut (tIfS (tB (tCB (rIsi K) (tCons (tOp (rIxT K) (tVar 4) (tC (.int 1))) (tCons (tC (.ty "list")) tNil)))) (tSeq (tDrop (tBM K "list" rAppend (tOp (rIxT K) (tVar 4) (tC (.int 1))) (tCons (tOp (rIxL K) (tOp (rIxT K) (tVar 4) (tC (.int 1))) (tC (.int 0))) tNil)))
    (tIfS (tTest (tOp rEq (tOp (rIxT K) (tVar 4) (tC (.int 0))) (tC (.str "evens")))) (tDrop (tBM K "list" rAppend (tOp (rIxL K) (tOp (rIxT K) (tVar 4) (tC (.int 1))) (tC (.int 0))) (tCons (tC (.int 7)) tNil))) tNext)) tNext)
    (tRet (tOp rEq (tCB rReprT (tCons (tCall (sp_read_bar K) [] E0 (tCons (tVar 2) tNil)) tNil)) (tVar 1)))))))))))
theorem sx_lright {K : PySem.W.Frag} : SX ⟨K, E0, cx0⟩ R_lright (fz rB) (t_lright K) M_lright :=
    (s_seq (s_set a_lright_1 (x_tCB v_reprT (x_aone (x_is Cv.id (x_var a_lright_0)))))
    (s_seq (s_set a_lright_2 (x_join (x_c fun _ => rfl) (x_fz (x_callF (x_aone (x_is Cv.id (x_var a_lright_0)))))))
    (s_seq (s_set a_lright_3 (x_call (x_aone (x_is Cv.id (x_var a_lright_0)))))
    (s_seq (s_ifB (x_or (x_not (x_tB (x_tCB (v_isi kd_S (fun _ => kit_ty (by decide +kernel))) (x_acons Cv.id (x_var a_lright_3) (x_aone (x_is Cv.id (x_c (r := rTy "str") (a := ()) fun _ => rfl))))))) (x_or (x_test (x_tOp v_neS Cv.id (x_var a_lright_3) (x_is Cv.id (x_var a_lright_2)))) (x_test (x_tOp v_neS Cv.id (x_tCB v_reprT (x_aone (x_is Cv.id (x_var a_lright_0)))) (x_is Cv.id (x_var a_lright_1)))))) (s_ret (x_c fun _ => rfl)) s_next)
    (s_scope sc0_lright (wx_seq (SX.w (s_setN as0_lright_4 (x_callNw (ast_one st_S) (x_aone (x_is Cv.id (x_var as0_lright_2))))))
    (wx_seq (SX.w (s_ifB (x_or (x_test (x_tOp v_neS Cv.id (x_tCB v_reprT (x_aone (x_is Cv.id (x_nf (x_varN as0_lright_4))))) (x_is Cv.id (x_var as0_lright_1)))) (x_test (x_tOp v_neS Cv.id (x_call (x_aone (x_is Cv.id (x_nf (x_varN as0_lright_4))))) (x_is Cv.id (x_var as0_lright_2))))) (s_ret (x_c fun _ => rfl)) s_next))
    (wx_seqC (SX.w (s_while 1000000000 (x_test (x_tOp v_eqS Cv.id (x_cast c_asS (x_tOp v_ixT Cv.ob (x_cast c_asT (x_nf (x_varN as0_lright_4))) (x_is Cv.id (x_c fun _ => rfl)))) (x_is Cv.id (x_c fun _ => rfl)))) (s_setN as0_lright_4 (x_small as0_lright_4 (x_tOp v_ixT Cv.ob (x_cast c_asT (x_var at_eV)) (x_is Cv.id (x_c fun _ => rfl)))))))
    (wx_cutC (wx_if (x_tB (x_tCB (v_isTh k_list) (x_acons Cv.id (x_tOp v_ixT Cv.ob (x_cast c_asT (x_nf (x_varN as0_lright_4))) (x_is Cv.id (x_c fun _ => rfl))) (x_aone (x_is Cv.id (x_c (r := rTy "list") (a := ()) fun _ => rfl)))))) (wx_splN as0_lright_4 stbs0_lright) (SX.w s_next))
    (SX.w (s_ret (x_tOp v_eqS Cv.id (x_tCB v_reprT (x_aone (x_is Cv.id (x_call (x_aone (x_is Cv.id (x_var as0_lright_2))))))) (x_is Cv.id (x_var as0_lright_1))))))))))))))
theorem rd_lright {K : PySem.W.Frag} {H : Hp} {vs : List V} {Q : VK} {E : XK} {N : List Str} (h : sp_lright K vs H Q E) (hN : N.length = 5 := by rfl) : t_lright K { nx := fun _ H' => Q .non H', rt := Q } (start N vs) H := by
  have h : spD K cx0 (aOne (ir rTh)) (fz rB) (fun (a : Th) => (M_lright (some a, none, none, none, none, ())).run none) vs H Q E := h
  refine d_D (dn := none) (ra := (aOne (ir rTh))) (e0 := fun (a : Th) => (some a, none, none, none, none, ())) (sx_lright) ?_ ?_ h
  · intro G H vs a s hr
    obtain ⟨v0, rfl, h0⟩ := hr
    rw [show start N [v0] = [some v0, none, none, none, none] by simp [L2.start, hN]]
    exact (e_fr h0 (e_frN (e_frN (e_frN (e_frN e_nil)))))
  · intro b h; cases h
abbrev E_law : Type := Option (List Int) × Option ((List Int) × Int × Int) × Option Int × Option Int × Unit
def R_law : ERep E_law := (eFr rScr (eOw (oL3 rScr rI rI) (eFr rI (eFr rI eNil))))
abbrev l_law_0 : Ln E_law (List Int) := Ln.z
theorem a_law_0 : FrAt R_law 0 rScr l_law_0 := FrAt.z
abbrev l_law_1 : Ln E_law ((List Int) × Int × Int) := (Ln.s Ln.z)
theorem a_law_1 : OwAt R_law 1 ownN (oL3 rScr rI rI) l_law_1 := (OwAt.sF OwAt.z)
abbrev l_law_2 : Ln E_law Int := (Ln.s (Ln.s Ln.z))
theorem a_law_2 : FrAt R_law 2 rI l_law_2 := (FrAt.sF (FrAt.sO FrAt.z))
abbrev l_law_3 : Ln E_law Int := (Ln.s (Ln.s (Ln.s Ln.z)))
theorem a_law_3 : FrAt R_law 3 rI l_law_3 := (FrAt.sF (FrAt.sO (FrAt.sF FrAt.z)))
def M_law : E_law → So E_law Bool :=
    (mSeq (mSet l_law_1 (mCall (fun p => m_lpen p) (mVar l_law_0)))
    (mCut (mKill (fun e => (Ln.put l_law_2 none (Ln.put l_law_3 none e))) (mFor (mRng1 (mC (5 : Int))) (pN l_law_2)
    (mKill (fun e => (Ln.put l_law_2 none (Ln.put l_law_3 none e))) (mSeq (mSet l_law_3 (mOp gIx (mUn szOk (mCons (mC (0 : Int)) (mCons (mC (0 : Int)) (mCons (mC (1 : Int)) (mCons (mCallI l_law_1 (fun s p => m_ldraw s p) (mC (6 : Int))) (mC [])))))) (mCallI l_law_1 (fun s p => m_ldraw s p) (mC (4 : Int)))))
    (mSeq (mIfS (mNot (mCall (fun p => m_lright p) (mCallI l_law_1 (fun s p => m_lbar s p) (mVar l_law_3)))) (mRet (mC false)) mNext)
    (mIfS (mNot (mCall (fun p => m_lright p) (mOp gSnd (mCallI l_law_1 (fun s p => m_lbarred s ) (mC ())) (mC (1 : Int))))) (mRet (mC false)) mNext))))))
    (mRet (mAnd (mOp gEqT (mCall (fun p => m_read_bar p) (mC ("set" : Str))) (mUn (toTh (fun xs => Th.tup (List.map (fun t => t) xs))) (mUn szOk (mCons (mUn (toTh Th.str) (mC ("sets" : Str))) (mCons (mUn (toTh (fun xs => Th.lst (List.map (fun t => t) xs))) (mUn szOk (mCons (mUn (toTh (fun xs => Th.tup (List.map (fun t => t) xs))) (mUn szOk (mCons (mUn (toTh (fun xs => Th.tup (List.map (fun t => t) xs))) (mUn szOk (mC ([] : List Th)))) (mCons (mUn (toTh (fun _ => Th.non)) (mC ())) (mC []))))) (mC [])))) (mC [])))))) (mOp gEqT (mCall (fun p => m_read_bar p) (mC ("cut by 0" : Str))) (mUn (toTh (fun xs => Th.tup (List.map (fun t => t) xs))) (mUn szOk (mCons (mUn (toTh Th.str) (mC ("sets" : Str))) (mCons (mUn (toTh (fun xs => Th.lst (List.map (fun t => t) xs))) (mUn szOk (mCons (mUn (toTh (fun xs => Th.tup (List.map (fun t => t) xs))) (mUn szOk (mCons (mUn (toTh (fun xs => Th.tup (List.map (fun t => t) xs))) (mUn szOk (mC ([] : List Th)))) (mCons (mUn (toTh (fun xs => Th.tup (List.map (fun t => t) xs))) (mUn szOk (mCons (mUn (toTh Th.int) (mC (0 : Int))) (mCons (mUn (toTh (fun xs => Th.tup (List.map (fun t => t) xs))) (mUn szOk (mC ([] : List Th)))) (mC []))))) (mC []))))) (mC [])))) (mC []))))))))))
def m_law (x0 : (List Int)) : Rs Unit Bool := (M_law (some x0, none, none, none, ())).run none
abbrev u_law (p : (List Int)) : Rs Unit Bool := m_law p
def sp_law (K : PySem.W.Frag) : Sp := spD K cx0 (aOne (ir rScr)) (fz rB) u_law
theorem len_law (K : PySem.W.Frag) : ∀ vs H Q E, sp_law K vs H Q E → vs.length = 1 := len_D ALen.one
def t_law (K : PySem.W.Frag) : TS :=
    (tSeq (tAsg (tCall (sp_lpen K) [] E0 (tCons (tVar 0) tNil)) (gName 1))
    (tSeq (tFor (iRng1 (tCons (tC (.int 5)) tNil)) (gName 2)
    (tSeq (tAsg (tOp (rIxL K) (tLst (tCons (tC (.int 0)) (tCons (tC (.int 0)) (tCons (tC (.int 1)) (tCons (tCall (sp_ldraw K) [] E0 (tCons (tVar 1) (tCons (tC (.int 6)) tNil))) tNil))))) (tCall (sp_ldraw K) [] E0 (tCons (tVar 1) (tCons (tC (.int 4)) tNil)))) (gName 3))
    (tSeq (tIfS (tNot (tB (tCall (sp_lright K) [] E0 (tCons (tCall (sp_lbar K) [] E0 (tCons (tVar 1) (tCons (tVar 3) tNil))) tNil)))) (tRet (tC (.bl false))) tNext)
    (tIfS (tNot (tB (tCall (sp_lright K) [] E0 (tCons (tOp (rIxT K) (tCall (sp_lbarred K) [] E0 (tCons (tVar 1) tNil)) (tC (.int 1))) tNil)))) (tRet (tC (.bl false))) tNext))))
    (tRet (tAndV (tOp (rEqD K) (tCall (sp_read_bar K) [] E0 (tCons (tC (.str "set")) tNil)) (tTup (tCons (tC (.str "sets")) (tCons (tLst (tCons (tTup (tCons (tTup tNil) (tCons (tC .non) tNil))) tNil)) tNil)))) (tOp (rEqD K) (tCall (sp_read_bar K) [] E0 (tCons (tC (.str "cut by 0")) tNil)) (tTup (tCons (tC (.str "sets")) (tCons (tLst (tCons (tTup (tCons (tTup tNil) (tCons (tTup (tCons (tC (.int 0)) (tCons (tTup tNil) tNil))) tNil))) tNil)) tNil))))))))
theorem sx_law {K : PySem.W.Frag} : SX ⟨K, E0, cx0⟩ R_law (fz rB) (t_law K) M_law :=
    (s_seq (s_setO a_law_1 (x_callF (x_aone (x_is Cv.id (x_var a_law_0)))))
    (s_seqC (s_kill (Kl.and (Kl.fr a_law_2) (Kl.fr a_law_3)) (s_for (vs := [2]) (x_rng1 (x_aone (x_is Cv.id (x_c fun _ => rfl)))) (n_name a_law_2 (by decide))
    (s_kill (Kl.and (Kl.fr a_law_2) (Kl.fr a_law_3)) (s_seq (s_set a_law_3 (x_tOp v_ixL Cv.ob (x_fz (x_lst (x_lcons (x_c fun _ => rfl) (x_lcons (x_c fun _ => rfl) (x_lcons (x_c fun _ => rfl) (x_lcons (x_callI a_law_1 ownN_q (x_pone Cv.id (x_c fun _ => rfl))) x_lnil)))))) (x_is Cv.id (x_callI a_law_1 ownN_q (x_pone Cv.id (x_c fun _ => rfl))))))
    (s_seq (s_if (x_not (x_tB (x_call (x_aone (x_is Cv.id (x_callI a_law_1 ownN_q (x_pone Cv.id (x_var a_law_3)))))))) (s_ret (x_c fun _ => rfl)) s_next)
    (s_if (x_not (x_tB (x_call (x_aone (x_is Cv.id (x_tOp v_t21 Cv.ob (x_callI a_law_1 ownN_q x_pnil) (x_is Cv.id (x_c fun _ => rfl)))))))) (s_ret (x_c fun _ => rfl)) s_next))))))
    (s_ret (x_andV (x_tOp v_eqT Cv.id (x_call (x_aone (x_is Cv.id (x_c fun _ => rfl)))) (x_is Cv.id (x_cast (ci_T ci_id) (x_tup (x_lcons (x_cast ci_S (x_c fun _ => rfl)) (x_lcons (x_cast (ci_L ci_id) (x_fz (x_lst (x_lcons (x_cast (ci_T ci_id) (x_tup (x_lcons (x_cast (ci_T ci_id) (x_tup (x_lnil (r := rTh)))) (x_lcons (x_cast ci_N (x_c fun _ => rfl)) x_lnil)))) x_lnil)))) x_lnil)))))) (x_tOp v_eqT Cv.id (x_call (x_aone (x_is Cv.id (x_c fun _ => rfl)))) (x_is Cv.id (x_cast (ci_T ci_id) (x_tup (x_lcons (x_cast ci_S (x_c fun _ => rfl)) (x_lcons (x_cast (ci_L ci_id) (x_fz (x_lst (x_lcons (x_cast (ci_T ci_id) (x_tup (x_lcons (x_cast (ci_T ci_id) (x_tup (x_lnil (r := rTh)))) (x_lcons (x_cast (ci_T ci_id) (x_tup (x_lcons (x_cast ci_I (x_c fun _ => rfl)) (x_lcons (x_cast (ci_T ci_id) (x_tup (x_lnil (r := rTh)))) x_lnil)))) x_lnil)))) x_lnil)))) x_lnil))))))))))
theorem rd_law {K : PySem.W.Frag} {H : Hp} {vs : List V} {Q : VK} {E : XK} {N : List Str} (h : sp_law K vs H Q E) (hN : N.length = 4 := by rfl) : t_law K { nx := fun _ H' => Q .non H', rt := Q } (start N vs) H := by
  have h : spD K cx0 (aOne (ir rScr)) (fz rB) (fun (a : (List Int)) => (M_law (some a, none, none, none, ())).run none) vs H Q E := h
  refine d_D (dn := none) (ra := (aOne (ir rScr))) (e0 := fun (a : (List Int)) => (some a, none, none, none, ())) (sx_law) ?_ ?_ h
  · intro G H vs a s hr
    obtain ⟨v0, rfl, h0⟩ := hr
    rw [show start N [v0] = [some v0, none, none, none] by simp [L2.start, hN]]
    exact (e_fr h0 (e_owN (e_frN (e_frN e_nil))))
  · intro b h; cases h
local macro_rules | `(tactic| walk_at "mi") => `(tactic| simp only [rp_runD, rp_runDS, rp_runI, rp_runIS, sp_seq, sp_kill, sp_al, sp_for, sp_ret, sp_drop, sp_set, sp_asgN, sp_if, sp_next, sp_mbk, sp_mct, sp_nx, sp_ct, sp_bk, sp_rt, sp_so, sp_ite, sp_setI, rp_ok, rp_bad, rp_of, rp_bind, rp_bindN, rp_run, rp_ite, rp_un, rp_op, rp_var, rp_move, rp_c, rp_opL, rp_pair, rp_pairL, rp_cons, rp_call, rp_callI, rp_bm, rp_bm0, rp_not, rp_and, rp_or, rp_if, rp_chain, rp_mSome, rp_mNone, rp_part, rp_sl, rp_slL, rp_rng1, rp_rng2, rp_enum, rp_lock, rp_dget2, rp_keys, rp_lc, rp_yes, rp_callX, rp_callXI, rp_signs, rp_unw, sp_asg, rp_ptTwo, rp_ptSub, gLen2, Ln.get_zlS, Ln.get_zlN, Ln.put_zlS, Ln.put_zlN, Ln.get_zrS, Ln.get_zrN, Ln.put_zrS, Ln.put_zrN, gSetF, gSsetF, gStep, gCut32, gMin2, gMax2, gRem, gIsi, gSortK, gStr, gLenS, gUpd, gSplit, gIntS, gSortF, op_some, op_ite, Ln.get_z, Ln.put_z, Ln.get_s, Ln.put_s, pN, p2, p3, gAdd, gSubI, gMul, gDiv, gMod, gPow, gShl, gShr, gAnd, gOr, gXor, gLt, gLe, gGt, gGe, gEq, gNe, gNeg, gIsN, gNotN, gLen, gFst, gSnd, g31, g32, gCat, gRep, gCut, gId, gRg, gRev, gIn, gNin, gAll, gAny, gSum, gMax, gAbs, gIntB, gSort, gSet, gSset, gApp, gIns, gExt, gRevM, gSet31, gSet32, dIn, dNin, gDPut, gRepr, szOk, id, if_true, if_false, decide_eq_true_eq, true_and, and_true, Bool.false_eq_true, ite_true, ite_false, eq_self_iff_true, and_self, true_or, or_true, Int.reduceLT, Int.reduceLE, Int.reduceNeg, Int.reduceSub, Int.reduceAdd, Int.reduceMul, Int.reduceEq, Nat.reduceLT, Nat.reduceLeDiff, Nat.reduceAdd, Nat.reduceSub, Nat.reduceMul, List.length_cons, List.length_nil])
local macro_rules | `(tactic| walk_at "mx") => `(tactic| simp only [rx_ok, rx_bad, rx_of, rx_bind, rx_run, rx_ite, sx_nx, sx_ct, sx_bk, sx_rt, sx_so, sx_ite, sx_seq, sx_kill, sx_for, sx_ret, sx_drop, sx_set, sx_asgN, sx_if, sx_next, sx_mbk, sx_mct, rx_un, rx_op, rx_var, rx_move, rx_c, rx_opL, rx_pair, rx_pairL, rx_cons, rx_call, rx_callI, rx_bm, rx_bm0, sx_setI, rx_not, rx_and, rx_or, rx_if, rx_chain, rx_mSome, rx_mNone, rx_part, rx_sl, rx_slL, rx_rng1, rx_rng2, rx_enum, rx_lock, rx_dget2, rx_keys, rx_lc, rx_yes, rx_runD, rx_runDS, sx_raise, sx_asg, rx_unw, rx_callE, gSsetG, rp_lam, rx_out, rp_out, toL, toR, toTh, gDisp1, gRepT, gDictP, pairTh, gIsTB, gNotTB, gIsTh_int, gIsTh_bool, gIsTh_list, gIsTh_tuple, gIsTh_str, gIsTh_dict, List.map_id', rp_runD, rp_runDS, rp_runI, rp_runIS, sp_seq, sp_kill, sp_al, sp_for, sp_ret, sp_drop, sp_set, sp_asgN, sp_if, sp_next, sp_mbk, sp_mct, sp_nx, sp_ct, sp_bk, sp_rt, sp_so, sp_ite, sp_setI, rp_ok, rp_bad, rp_of, rp_bind, rp_bindN, rp_run, rp_ite, rp_un, rp_op, rp_var, rp_move, rp_c, rp_opL, rp_pair, rp_pairL, rp_cons, rp_call, rp_callI, rp_bm, rp_bm0, rp_not, rp_and, rp_or, rp_if, rp_chain, rp_mSome, rp_mNone, rp_part, rp_sl, rp_slL, rp_rng1, rp_rng2, rp_enum, rp_lock, rp_dget2, rp_keys, rp_lc, rp_yes, rp_callX, rp_callXI, rp_signs, rp_unw, sp_asg, rp_ptTwo, rp_ptSub, gLen2, Ln.get_zlS, Ln.get_zlN, Ln.put_zlS, Ln.put_zlN, Ln.get_zrS, Ln.get_zrN, Ln.put_zrS, Ln.put_zrN, gSetF, gSsetF, gStep, gCut32, gMin2, gMax2, gRem, gIsi, gSortK, gStr, gLenS, gUpd, gSplit, gIntS, gSortF, op_some, op_ite, Ln.get_z, Ln.put_z, Ln.get_s, Ln.put_s, pN, p2, p3, gAdd, gSubI, gMul, gDiv, gMod, gPow, gShl, gShr, gAnd, gOr, gXor, gLt, gLe, gGt, gGe, gEq, gNe, gNeg, gIsN, gNotN, gLen, gFst, gSnd, g31, g32, gCat, gRep, gCut, gId, gRg, gRev, gIn, gNin, gAll, gAny, gSum, gMax, gAbs, gIntB, gSort, gSet, gSset, gApp, gIns, gExt, gRevM, gSet31, gSet32, dIn, dNin, gDPut, gRepr, szOk, id, if_true, if_false, decide_eq_true_eq, true_and, and_true, Bool.false_eq_true, ite_true, ite_false, eq_self_iff_true, and_self, true_or, or_true, Int.reduceLT, Int.reduceLE, Int.reduceNeg, Int.reduceSub, Int.reduceAdd, Int.reduceMul, Int.reduceEq, Nat.reduceLT, Nat.reduceLeDiff, Nat.reduceAdd, Nat.reduceSub, Nat.reduceMul, List.length_cons, List.length_nil])
local macro_rules | `(tactic| walk_at "mg") => `(tactic| simp only [gLenSI, gLenST, gDispT, gMulW, rx_ok, rx_bad, rx_of, rx_bind, rx_run, rx_ite, sx_nx, sx_ct, sx_bk, sx_rt, sx_so, sx_ite, sx_seq, sx_kill, sx_for, sx_ret, sx_drop, sx_set, sx_asgN, sx_if, sx_next, sx_mbk, sx_mct, rx_un, rx_op, rx_var, rx_move, rx_c, rx_opL, rx_pair, rx_pairL, rx_cons, rx_call, rx_callI, rx_bm, rx_bm0, sx_setI, rx_not, rx_and, rx_or, rx_if, rx_chain, rx_mSome, rx_mNone, rx_part, rx_sl, rx_slL, rx_rng1, rx_rng2, rx_enum, rx_lock, rx_dget2, rx_keys, rx_lc, rx_yes, rx_runD, rx_runDS, sx_raise, sx_asg, rx_unw, rx_callE, gSsetG, rp_lam, rx_out, rp_out, toL, toR, toTh, gDisp1, gRepT, gDictP, pairTh, gIsTB, gNotTB, gIsTh_int, gIsTh_bool, gIsTh_list, gIsTh_tuple, gIsTh_str, gIsTh_dict, List.map_id', rp_runD, rp_runDS, rp_runI, rp_runIS, sp_seq, sp_kill, sp_al, sp_for, sp_ret, sp_drop, sp_set, sp_asgN, sp_if, sp_next, sp_mbk, sp_mct, sp_nx, sp_ct, sp_bk, sp_rt, sp_so, sp_ite, sp_setI, rp_ok, rp_bad, rp_of, rp_bind, rp_bindN, rp_run, rp_ite, rp_un, rp_op, rp_var, rp_move, rp_c, rp_opL, rp_pair, rp_pairL, rp_cons, rp_call, rp_callI, rp_bm, rp_bm0, rp_not, rp_and, rp_or, rp_if, rp_chain, rp_mSome, rp_mNone, rp_part, rp_sl, rp_slL, rp_rng1, rp_rng2, rp_enum, rp_lock, rp_dget2, rp_keys, rp_lc, rp_yes, rp_callX, rp_callXI, rp_signs, rp_unw, sp_asg, rp_ptTwo, rp_ptSub, gLen2, Ln.get_zlS, Ln.get_zlN, Ln.put_zlS, Ln.put_zlN, Ln.get_zrS, Ln.get_zrN, Ln.put_zrS, Ln.put_zrN, gSetF, gSsetF, gStep, gCut32, gMin2, gMax2, gRem, gIsi, gSortK, gStr, gLenS, gUpd, gSplit, gIntS, gSortF, op_some, op_ite, Ln.get_z, Ln.put_z, Ln.get_s, Ln.put_s, pN, p2, p3, gAdd, gSubI, gMul, gDiv, gMod, gPow, gShl, gShr, gAnd, gOr, gXor, gLt, gLe, gGt, gGe, gEq, gNe, gNeg, gIsN, gNotN, gLen, gFst, gSnd, g31, g32, gCat, gRep, gCut, gId, gRg, gRev, gIn, gNin, gAll, gAny, gSum, gMax, gAbs, gIntB, gSort, gSet, gSset, gApp, gIns, gExt, gRevM, gSet31, gSet32, dIn, dNin, gDPut, gRepr, szOk, id, if_true, if_false, decide_eq_true_eq, true_and, and_true, Bool.false_eq_true, ite_true, ite_false, eq_self_iff_true, and_self, true_or, or_true, Int.reduceLT, Int.reduceLE, Int.reduceNeg, Int.reduceSub, Int.reduceAdd, Int.reduceMul, Int.reduceEq, Nat.reduceLT, Nat.reduceLeDiff, Nat.reduceAdd, Nat.reduceSub, Nat.reduceMul, List.length_cons, List.length_nil])
local macro_rules | `(tactic| walk_at "mn") => `(tactic| simp only [gPl, gPa, gPc, gSetPl, gSetPa, gDivW, gAddS, gMulS, gLenSI, gLenST, gDispT, gMulW, rx_ok, rx_bad, rx_of, rx_bind, rx_run, rx_ite, sx_nx, sx_ct, sx_bk, sx_rt, sx_so, sx_ite, sx_seq, sx_kill, sx_for, sx_ret, sx_drop, sx_set, sx_asgN, sx_if, sx_next, sx_mbk, sx_mct, rx_un, rx_op, rx_var, rx_move, rx_c, rx_opL, rx_pair, rx_pairL, rx_cons, rx_call, rx_callI, rx_bm, rx_bm0, sx_setI, rx_not, rx_and, rx_or, rx_if, rx_chain, rx_mSome, rx_mNone, rx_part, rx_sl, rx_slL, rx_rng1, rx_rng2, rx_enum, rx_lock, rx_dget2, rx_keys, rx_lc, rx_yes, rx_runD, rx_runDS, sx_raise, sx_asg, rx_unw, rx_callE, gSsetG, rp_lam, rx_out, rp_out, toL, toR, toTh, gDisp1, gRepT, gDictP, pairTh, gIsTB, gNotTB, gIsTh_int, gIsTh_bool, gIsTh_list, gIsTh_tuple, gIsTh_str, gIsTh_dict, List.map_id', rp_runD, rp_runDS, rp_runI, rp_runIS, sp_seq, sp_kill, sp_al, sp_for, sp_ret, sp_drop, sp_set, sp_asgN, sp_if, sp_next, sp_mbk, sp_mct, sp_nx, sp_ct, sp_bk, sp_rt, sp_so, sp_ite, sp_setI, rp_ok, rp_bad, rp_of, rp_bind, rp_bindN, rp_run, rp_ite, rp_un, rp_op, rp_var, rp_move, rp_c, rp_opL, rp_pair, rp_pairL, rp_cons, rp_call, rp_callI, rp_bm, rp_bm0, rp_not, rp_and, rp_or, rp_if, rp_chain, rp_mSome, rp_mNone, rp_part, rp_sl, rp_slL, rp_rng1, rp_rng2, rp_enum, rp_lock, rp_dget2, rp_keys, rp_lc, rp_yes, rp_callX, rp_callXI, rp_signs, rp_unw, sp_asg, rp_ptTwo, rp_ptSub, gLen2, Ln.get_zlS, Ln.get_zlN, Ln.put_zlS, Ln.put_zlN, Ln.get_zrS, Ln.get_zrN, Ln.put_zrS, Ln.put_zrN, gSetF, gSsetF, gStep, gCut32, gMin2, gMax2, gRem, gIsi, gSortK, gStr, gLenS, gUpd, gSplit, gIntS, gSortF, op_some, op_ite, Ln.get_z, Ln.put_z, Ln.get_s, Ln.put_s, pN, p2, p3, gAdd, gSubI, gMul, gDiv, gMod, gPow, gShl, gShr, gAnd, gOr, gXor, gLt, gLe, gGt, gGe, gEq, gNe, gNeg, gIsN, gNotN, gLen, gFst, gSnd, g31, g32, gCat, gRep, gCut, gId, gRg, gRev, gIn, gNin, gAll, gAny, gSum, gMax, gAbs, gIntB, gSort, gSet, gSset, gApp, gIns, gExt, gRevM, gSet31, gSet32, dIn, dNin, gDPut, gRepr, szOk, id, if_true, if_false, decide_eq_true_eq, true_and, and_true, Bool.false_eq_true, ite_true, ite_false, eq_self_iff_true, and_self, true_or, or_true, Int.reduceLT, Int.reduceLE, Int.reduceNeg, Int.reduceSub, Int.reduceAdd, Int.reduceMul, Int.reduceEq, Nat.reduceLT, Nat.reduceLeDiff, Nat.reduceAdd, Nat.reduceSub, Nat.reduceMul, List.length_cons, List.length_nil])
local macro_rules | `(tactic| walk_at "md") => `(tactic| simp only [rp_view, rp_appD, rp_insD, rp_sdApp, sp_sp1, sp_sp2, gSp, gSortKI, gPl, gPa, gPc, gSetPl, gSetPa, gAddS, gMulS, gLenSI, gLenST, gDispT, gMulW, rx_ok, rx_bad, rx_of, rx_bind, rx_run, rx_ite, sx_nx, sx_ct, sx_bk, sx_rt, sx_so, sx_ite, sx_seq, sx_kill, sx_for, sx_ret, sx_drop, sx_set, sx_asgN, sx_if, sx_next, sx_mbk, sx_mct, rx_un, rx_op, rx_var, rx_move, rx_c, rx_opL, rx_pair, rx_pairL, rx_cons, rx_call, rx_callI, rx_bm, rx_bm0, sx_setI, rx_not, rx_and, rx_or, rx_if, rx_chain, rx_mSome, rx_mNone, rx_part, rx_sl, rx_slL, rx_rng1, rx_rng2, rx_enum, rx_lock, rx_dget2, rx_keys, rx_lc, rx_yes, rx_runD, rx_runDS, sx_raise, sx_asg, rx_unw, rx_callE, gSsetG, rp_lam, rx_out, rp_out, toL, toR, toTh, gDisp1, gRepT, gDictP, pairTh, gIsTB, gNotTB, gIsTh_int, gIsTh_bool, gIsTh_list, gIsTh_tuple, gIsTh_str, gIsTh_dict, List.map_id', rp_runD, rp_runDS, rp_runI, rp_runIS, sp_seq, sp_kill, sp_al, sp_for, sp_ret, sp_drop, sp_set, sp_asgN, sp_if, sp_next, sp_mbk, sp_mct, sp_nx, sp_ct, sp_bk, sp_rt, sp_so, sp_ite, sp_setI, rp_ok, rp_bad, rp_of, rp_bind, rp_bindN, rp_run, rp_ite, rp_un, rp_op, rp_var, rp_move, rp_c, rp_opL, rp_pair, rp_pairL, rp_cons, rp_call, rp_callI, rp_bm, rp_bm0, rp_not, rp_and, rp_or, rp_if, rp_chain, rp_mSome, rp_mNone, rp_part, rp_sl, rp_slL, rp_rng1, rp_rng2, rp_enum, rp_lock, rp_dget2, rp_keys, rp_lc, rp_yes, rp_callX, rp_callXI, rp_signs, rp_unw, sp_asg, rp_ptTwo, rp_ptSub, gLen2, Ln.get_zlS, Ln.get_zlN, Ln.put_zlS, Ln.put_zlN, Ln.get_zrS, Ln.get_zrN, Ln.put_zrS, Ln.put_zrN, gSetF, gSsetF, gStep, gCut32, gMin2, gMax2, gRem, gIsi, gSortK, gStr, gLenS, gUpd, gSplit, gIntS, gSortF, op_some, op_ite, Ln.get_z, Ln.put_z, Ln.get_s, Ln.put_s, pN, p2, p3, gAdd, gSubI, gMul, gDiv, gMod, gPow, gShl, gShr, gAnd, gOr, gXor, gLt, gLe, gGt, gGe, gEq, gNe, gNeg, gIsN, gNotN, gLen, gFst, gSnd, g31, g32, gCat, gRep, gCut, gId, gRg, gRev, gIn, gNin, gAll, gAny, gSum, gMax, gAbs, gIntB, gSort, gSet, gSset, gApp, gIns, gExt, gRevM, gSet31, gSet32, dIn, dNin, gDPut, gRepr, szOk, id, if_true, if_false, decide_eq_true_eq, true_and, and_true, Bool.false_eq_true, ite_true, ite_false, eq_self_iff_true, and_self, true_or, or_true, Int.reduceLT, Int.reduceLE, Int.reduceNeg, Int.reduceSub, Int.reduceAdd, Int.reduceMul, Int.reduceEq, Nat.reduceLT, Nat.reduceLeDiff, Nat.reduceAdd, Nat.reduceSub, Nat.reduceMul, List.length_cons, List.length_nil])
local macro_rules | `(tactic| walk_at "me") => `(tactic| simp only [rp_at0App, rp_rngD, sp_lockS, gBits, gMinT, gSortTp, gDictPT, gKeysT, gVNin, rp_view, rp_appD, rp_insD, rp_sdApp, sp_sp1, sp_sp2, gSp, gSortKI, gPl, gPa, gPc, gSetPl, gSetPa, gAddS, gMulS, gLenSI, gLenST, gDispT, gMulW, rx_ok, rx_bad, rx_of, rx_bind, rx_run, rx_ite, sx_nx, sx_ct, sx_bk, sx_rt, sx_so, sx_ite, sx_seq, sx_kill, sx_for, sx_ret, sx_drop, sx_set, sx_asgN, sx_if, sx_next, sx_mbk, sx_mct, rx_un, rx_op, rx_var, rx_move, rx_c, rx_opL, rx_pair, rx_pairL, rx_cons, rx_call, rx_callI, rx_bm, rx_bm0, sx_setI, rx_not, rx_and, rx_or, rx_if, rx_chain, rx_mSome, rx_mNone, rx_part, rx_sl, rx_slL, rx_rng1, rx_rng2, rx_enum, rx_lock, rx_dget2, rx_keys, rx_lc, rx_yes, rx_runD, rx_runDS, sx_raise, sx_asg, rx_unw, rx_callE, gSsetG, rp_lam, rx_out, rp_out, toL, toR, toTh, gDisp1, gRepT, gDictP, pairTh, gIsTB, gNotTB, gIsTh_int, gIsTh_bool, gIsTh_list, gIsTh_tuple, gIsTh_str, gIsTh_dict, List.map_id', rp_runD, rp_runDS, rp_runI, rp_runIS, sp_seq, sp_kill, sp_al, sp_for, sp_ret, sp_drop, sp_set, sp_asgN, sp_if, sp_next, sp_mbk, sp_mct, sp_nx, sp_ct, sp_bk, sp_rt, sp_so, sp_ite, sp_setI, rp_ok, rp_bad, rp_of, rp_bind, rp_bindN, rp_run, rp_ite, rp_un, rp_op, rp_var, rp_move, rp_c, rp_opL, rp_pair, rp_pairL, rp_cons, rp_call, rp_callI, rp_bm, rp_bm0, rp_not, rp_and, rp_or, rp_if, rp_chain, rp_mSome, rp_mNone, rp_part, rp_sl, rp_slL, rp_rng1, rp_rng2, rp_enum, rp_lock, rp_dget2, rp_keys, rp_lc, rp_yes, rp_callX, rp_callXI, rp_signs, rp_unw, sp_asg, rp_ptTwo, rp_ptSub, gLen2, Ln.get_zlS, Ln.get_zlN, Ln.put_zlS, Ln.put_zlN, Ln.get_zrS, Ln.get_zrN, Ln.put_zrS, Ln.put_zrN, gSetF, gSsetF, gStep, gCut32, gMin2, gMax2, gRem, gIsi, gSortK, gStr, gLenS, gUpd, gSplit, gIntS, gSortF, op_some, op_ite, Ln.get_z, Ln.put_z, Ln.get_s, Ln.put_s, pN, p2, p3, gAdd, gSubI, gMul, gDiv, gMod, gPow, gShl, gShr, gAnd, gOr, gXor, gLt, gLe, gGt, gGe, gEq, gNe, gNeg, gIsN, gNotN, gLen, gFst, gSnd, g31, g32, gCat, gRep, gCut, gId, gRg, gRev, gIn, gNin, gAll, gAny, gSum, gMax, gAbs, gIntB, gSort, gSet, gSset, gApp, gIns, gExt, gRevM, gSet31, gSet32, dIn, dNin, gDPut, gRepr, szOk, id, if_true, if_false, decide_eq_true_eq, true_and, and_true, Bool.false_eq_true, ite_true, ite_false, eq_self_iff_true, and_self, true_or, or_true, Int.reduceLT, Int.reduceLE, Int.reduceNeg, Int.reduceSub, Int.reduceAdd, Int.reduceMul, Int.reduceEq, Nat.reduceLT, Nat.reduceLeDiff, Nat.reduceAdd, Nat.reduceSub, Nat.reduceMul, List.length_cons, List.length_nil])
local macro_rules | `(tactic| walk_at "mf") => `(tactic| simp only [sp_popD, sp_subPop, sp_put2, rp_dictDD, op_popK, op_sortFK, rp_at0App, rp_rngD, sp_lockS, gBits, gMinT, gSortTp, gDictPT, gKeysT, gVNin, rp_view, rp_appD, rp_insD, rp_sdApp, sp_sp1, sp_sp2, gSp, gSortKI, gPl, gPa, gPc, gSetPl, gSetPa, gAddS, gMulS, gLenSI, gLenST, gDispT, gMulW, rx_ok, rx_bad, rx_of, rx_bind, rx_run, rx_ite, sx_nx, sx_ct, sx_bk, sx_rt, sx_so, sx_ite, sx_seq, sx_kill, sx_for, sx_ret, sx_drop, sx_set, sx_asgN, sx_if, sx_next, sx_mbk, sx_mct, rx_un, rx_op, rx_var, rx_move, rx_c, rx_opL, rx_pair, rx_pairL, rx_cons, rx_call, rx_callI, rx_bm, rx_bm0, sx_setI, rx_not, rx_and, rx_or, rx_if, rx_chain, rx_mSome, rx_mNone, rx_part, rx_sl, rx_slL, rx_rng1, rx_rng2, rx_enum, rx_lock, rx_dget2, rx_keys, rx_lc, rx_yes, rx_runD, rx_runDS, sx_raise, sx_asg, rx_unw, rx_callE, gSsetG, rp_lam, rx_out, rp_out, toL, toR, toTh, gDisp1, gRepT, gDictP, pairTh, gIsTB, gNotTB, gIsTh_int, gIsTh_bool, gIsTh_list, gIsTh_tuple, gIsTh_str, gIsTh_dict, List.map_id', rp_runD, rp_runDS, rp_runI, rp_runIS, sp_seq, sp_kill, sp_al, sp_for, sp_ret, sp_drop, sp_set, sp_asgN, sp_if, sp_next, sp_mbk, sp_mct, sp_nx, sp_ct, sp_bk, sp_rt, sp_so, sp_ite, sp_setI, rp_ok, rp_bad, rp_of, rp_bind, rp_bindN, rp_run, rp_ite, rp_un, rp_op, rp_var, rp_move, rp_c, rp_opL, rp_pair, rp_pairL, rp_cons, rp_call, rp_callI, rp_bm, rp_bm0, rp_not, rp_and, rp_or, rp_if, rp_chain, rp_mSome, rp_mNone, rp_part, rp_sl, rp_slL, rp_rng1, rp_rng2, rp_enum, rp_lock, rp_dget2, rp_keys, rp_lc, rp_yes, rp_callX, rp_callXI, rp_signs, rp_unw, sp_asg, rp_ptTwo, rp_ptSub, gLen2, Ln.get_zlS, Ln.get_zlN, Ln.put_zlS, Ln.put_zlN, Ln.get_zrS, Ln.get_zrN, Ln.put_zrS, Ln.put_zrN, gSetF, gSsetF, gStep, gCut32, gMin2, gMax2, gRem, gIsi, gSortK, gStr, gLenS, gUpd, gSplit, gIntS, gSortF, op_some, op_ite, Ln.get_z, Ln.put_z, Ln.get_s, Ln.put_s, pN, p2, p3, gAdd, gSubI, gMul, gDiv, gMod, gPow, gShl, gShr, gAnd, gOr, gXor, gLt, gLe, gGt, gGe, gEq, gNe, gNeg, gIsN, gNotN, gLen, gFst, gSnd, g31, g32, gCat, gRep, gCut, gId, gRg, gRev, gIn, gNin, gAll, gAny, gSum, gMax, gAbs, gIntB, gSort, gSet, gSset, gApp, gIns, gExt, gRevM, gSet31, gSet32, dIn, dNin, gDPut, gRepr, szOk, id, if_true, if_false, decide_eq_true_eq, true_and, and_true, Bool.false_eq_true, ite_true, ite_false, eq_self_iff_true, and_self, true_or, or_true, Int.reduceLT, Int.reduceLE, Int.reduceNeg, Int.reduceSub, Int.reduceAdd, Int.reduceMul, Int.reduceEq, Nat.reduceLT, Nat.reduceLeDiff, Nat.reduceAdd, Nat.reduceSub, Nat.reduceMul, List.length_cons, List.length_nil])
local macro_rules | `(tactic| walk_at "mk") => `(tactic| simp only [rp_lockV, rp_fstApp, rp_sndClr, gIt2, gItS, sp_popD, sp_subPop, sp_put2, rp_dictDD, op_popK, op_sortFK, rp_at0App, rp_rngD, sp_lockS, gBits, gMinT, gSortTp, gDictPT, gKeysT, gVNin, rp_view, rp_appD, rp_insD, rp_sdApp, sp_sp1, sp_sp2, gSp, gSortKI, gPl, gPa, gPc, gSetPl, gSetPa, gAddS, gMulS, gLenSI, gLenST, gDispT, gMulW, rx_ok, rx_bad, rx_of, rx_bind, rx_run, rx_ite, sx_nx, sx_ct, sx_bk, sx_rt, sx_so, sx_ite, sx_seq, sx_kill, sx_for, sx_ret, sx_drop, sx_set, sx_asgN, sx_if, sx_next, sx_mbk, sx_mct, rx_un, rx_op, rx_var, rx_move, rx_c, rx_opL, rx_pair, rx_pairL, rx_cons, rx_call, rx_callI, rx_bm, rx_bm0, sx_setI, rx_not, rx_and, rx_or, rx_if, rx_chain, rx_mSome, rx_mNone, rx_part, rx_sl, rx_slL, rx_rng1, rx_rng2, rx_enum, rx_lock, rx_dget2, rx_keys, rx_lc, rx_yes, rx_runD, rx_runDS, sx_raise, sx_asg, rx_unw, rx_callE, gSsetG, rp_lam, rx_out, rp_out, toL, toR, toTh, gDisp1, gRepT, gDictP, pairTh, gIsTB, gNotTB, gIsTh_int, gIsTh_bool, gIsTh_list, gIsTh_tuple, gIsTh_str, gIsTh_dict, List.map_id', rp_runD, rp_runDS, rp_runI, rp_runIS, sp_seq, sp_kill, sp_al, sp_for, sp_ret, sp_drop, sp_set, sp_asgN, sp_if, sp_next, sp_mbk, sp_mct, sp_nx, sp_ct, sp_bk, sp_rt, sp_so, sp_ite, sp_setI, rp_ok, rp_bad, rp_of, rp_bind, rp_bindN, rp_run, rp_ite, rp_un, rp_op, rp_var, rp_move, rp_c, rp_opL, rp_pair, rp_pairL, rp_cons, rp_call, rp_callI, rp_bm, rp_bm0, rp_not, rp_and, rp_or, rp_if, rp_chain, rp_mSome, rp_mNone, rp_part, rp_sl, rp_slL, rp_rng1, rp_rng2, rp_enum, rp_lock, rp_dget2, rp_keys, rp_lc, rp_yes, rp_callX, rp_callXI, rp_signs, rp_unw, sp_asg, rp_ptTwo, rp_ptSub, gLen2, Ln.get_zlS, Ln.get_zlN, Ln.put_zlS, Ln.put_zlN, Ln.get_zrS, Ln.get_zrN, Ln.put_zrS, Ln.put_zrN, gSetF, gSsetF, gStep, gCut32, gMin2, gMax2, gRem, gIsi, gSortK, gStr, gLenS, gUpd, gSplit, gIntS, gSortF, op_some, op_ite, Ln.get_z, Ln.put_z, Ln.get_s, Ln.put_s, pN, p2, p3, gAdd, gSubI, gMul, gDiv, gMod, gPow, gShl, gShr, gAnd, gOr, gXor, gLt, gLe, gGt, gGe, gEq, gNe, gNeg, gIsN, gNotN, gLen, gFst, gSnd, g31, g32, gCat, gRep, gCut, gId, gRg, gRev, gIn, gNin, gAll, gAny, gSum, gMax, gAbs, gIntB, gSort, gSet, gSset, gApp, gIns, gExt, gRevM, gSet31, gSet32, dIn, dNin, gDPut, gRepr, szOk, id, if_true, if_false, decide_eq_true_eq, true_and, and_true, Bool.false_eq_true, ite_true, ite_false, eq_self_iff_true, and_self, true_or, or_true, Int.reduceLT, Int.reduceLE, Int.reduceNeg, Int.reduceSub, Int.reduceAdd, Int.reduceMul, Int.reduceEq, Nat.reduceLT, Nat.reduceLeDiff, Nat.reduceAdd, Nat.reduceSub, Nat.reduceMul, List.length_cons, List.length_nil])
local macro_rules | `(tactic| walk_at "mp") => `(tactic| simp only [gJoin, gCutS, gSetLS, gSplit, rp_lockV, rp_fstApp, rp_sndClr, gIt2, gItS, sp_popD, sp_subPop, sp_put2, rp_dictDD, op_popK, op_sortFK, rp_at0App, rp_rngD, sp_lockS, gBits, gMinT, gSortTp, gDictPT, gKeysT, gVNin, rp_view, rp_appD, rp_insD, rp_sdApp, sp_sp1, sp_sp2, gSp, gSortKI, gPl, gPa, gPc, gSetPl, gSetPa, gAddS, gMulS, gLenSI, gLenST, gDispT, gMulW, rx_ok, rx_bad, rx_of, rx_bind, rx_run, rx_ite, sx_nx, sx_ct, sx_bk, sx_rt, sx_so, sx_ite, sx_seq, sx_kill, sx_for, sx_ret, sx_drop, sx_set, sx_asgN, sx_if, sx_next, sx_mbk, sx_mct, rx_un, rx_op, rx_var, rx_move, rx_c, rx_opL, rx_pair, rx_pairL, rx_cons, rx_call, rx_callI, rx_bm, rx_bm0, sx_setI, rx_not, rx_and, rx_or, rx_if, rx_chain, rx_mSome, rx_mNone, rx_part, rx_sl, rx_slL, rx_rng1, rx_rng2, rx_enum, rx_lock, rx_dget2, rx_keys, rx_lc, rx_yes, rx_runD, rx_runDS, sx_raise, sx_asg, rx_unw, rx_callE, gSsetG, rp_lam, rx_out, rp_out, toL, toR, toTh, gDisp1, gRepT, gDictP, pairTh, gIsTB, gNotTB, gIsTh_int, gIsTh_bool, gIsTh_list, gIsTh_tuple, gIsTh_str, gIsTh_dict, List.map_id', rp_runD, rp_runDS, rp_runI, rp_runIS, sp_seq, sp_kill, sp_al, sp_for, sp_ret, sp_drop, sp_set, sp_asgN, sp_if, sp_next, sp_mbk, sp_mct, sp_nx, sp_ct, sp_bk, sp_rt, sp_so, sp_ite, sp_setI, rp_ok, rp_bad, rp_of, rp_bind, rp_bindN, rp_run, rp_ite, rp_un, rp_op, rp_var, rp_move, rp_c, rp_opL, rp_pair, rp_pairL, rp_pairM, rp_cons, rp_call, rp_callI, rp_bm, rp_bm0, rp_not, rp_and, rp_or, rp_if, rp_chain, rp_mSome, rp_mNone, rp_part, rp_sl, rp_slL, rp_rng1, rp_rng2, rp_enum, rp_lock, rp_dget2, rp_keys, rp_lc, rp_yes, rp_callX, rp_callXI, rp_signs, rp_unw, sp_asg, rp_ptTwo, rp_ptSub, gLen2, Ln.get_zlS, Ln.get_zlN, Ln.put_zlS, Ln.put_zlN, Ln.get_zrS, Ln.get_zrN, Ln.put_zrS, Ln.put_zrN, gSetF, gSsetF, gStep, gCut32, gMin2, gMax2, gRem, gIsi, gSortK, gStr, gLenS, gUpd, gSplit, gIntS, gSortF, op_some, op_ite, Ln.get_z, Ln.put_z, Ln.get_s, Ln.put_s, pN, p2, p3, gAdd, gSubI, gMul, gDiv, gMod, gPow, gShl, gShr, gAnd, gOr, gXor, gLt, gLe, gGt, gGe, gEq, gNe, gNeg, gIsN, gNotN, gLen, gFst, gSnd, g31, g32, gCat, gRep, gCut, gId, gRg, gRev, gIn, gNin, gAll, gAny, gSum, gMax, gAbs, gIntB, gSort, gSet, gSset, gApp, gIns, gExt, gRevM, gSet31, gSet32, dIn, dNin, gDPut, gRepr, szOk, id, if_true, if_false, decide_eq_true_eq, true_and, and_true, Bool.false_eq_true, ite_true, ite_false, eq_self_iff_true, and_self, true_or, or_true, Int.reduceLT, Int.reduceLE, Int.reduceNeg, Int.reduceSub, Int.reduceAdd, Int.reduceMul, Int.reduceEq, Nat.reduceLT, Nat.reduceLeDiff, Nat.reduceAdd, Nat.reduceSub, Nat.reduceMul, List.length_cons, List.length_nil])
local macro_rules | `(tactic| walk_at "mq") => `(tactic| simp only [gMulS0, rp_dr, rp_bmF, sp_setF, rp_methT, gJoin, gCutS, gSetLS, gSplit, rp_lockV, rp_fstApp, rp_sndClr, gIt2, gItS, sp_popD, sp_subPop, sp_put2, rp_dictDD, op_popK, op_sortFK, rp_at0App, rp_rngD, sp_lockS, gBits, gMinT, gSortTp, gDictPT, gKeysT, gVNin, rp_view, rp_appD, rp_insD, rp_sdApp, sp_sp1, sp_sp2, gSp, gSortKI, gPl, gPa, gPc, gSetPl, gSetPa, gAddS, gMulS, gLenSI, gLenST, gDispT, gMulW, rx_ok, rx_bad, rx_of, rx_bind, rx_run, rx_ite, sx_nx, sx_ct, sx_bk, sx_rt, sx_so, sx_ite, sx_seq, sx_kill, sx_for, sx_ret, sx_drop, sx_set, sx_asgN, sx_if, sx_next, sx_mbk, sx_mct, rx_un, rx_op, rx_var, rx_move, rx_c, rx_opL, rx_pair, rx_pairL, rx_cons, rx_call, rx_callI, rx_bm, rx_bm0, sx_setI, rx_not, rx_and, rx_or, rx_if, rx_chain, rx_mSome, rx_mNone, rx_part, rx_sl, rx_slL, rx_rng1, rx_rng2, rx_enum, rx_lock, rx_dget2, rx_keys, rx_lc, rx_yes, rx_runD, rx_runDS, sx_raise, sx_asg, rx_unw, rx_callE, gSsetG, rp_lam, rx_out, rp_out, toL, toR, toTh, gDisp1, gRepT, gDictP, pairTh, gIsTB, gNotTB, gIsTh_int, gIsTh_bool, gIsTh_list, gIsTh_tuple, gIsTh_str, gIsTh_dict, List.map_id', rp_runD, rp_runDS, rp_runI, rp_runIS, sp_seq, sp_kill, sp_al, sp_for, sp_ret, sp_drop, sp_set, sp_asgN, sp_if, sp_next, sp_mbk, sp_mct, sp_nx, sp_ct, sp_bk, sp_rt, sp_so, sp_ite, sp_setI, rp_ok, rp_bad, rp_of, rp_bind, rp_bindN, rp_run, rp_ite, rp_un, rp_op, rp_var, rp_move, rp_c, rp_opL, rp_pair, rp_pairL, rp_pairM, rp_cons, rp_call, rp_callI, rp_bm, rp_bm0, rp_not, rp_and, rp_or, rp_if, rp_chain, rp_mSome, rp_mNone, rp_part, rp_sl, rp_slL, rp_rng1, rp_rng2, rp_enum, rp_lock, rp_dget2, rp_keys, rp_lc, rp_yes, rp_callX, rp_callXI, rp_signs, rp_unw, sp_asg, rp_ptTwo, rp_ptSub, gLen2, Ln.get_zlS, Ln.get_zlN, Ln.put_zlS, Ln.put_zlN, Ln.get_zrS, Ln.get_zrN, Ln.put_zrS, Ln.put_zrN, gSetF, gSsetF, gStep, gCut32, gMin2, gMax2, gRem, gIsi, gSortK, gStr, gLenS, gUpd, gSplit, gIntS, gSortF, op_some, op_ite, Ln.get_z, Ln.put_z, Ln.get_s, Ln.put_s, pN, p2, p3, gAdd, gSubI, gMul, gDiv, gMod, gPow, gShl, gShr, gAnd, gOr, gXor, gLt, gLe, gGt, gGe, gEq, gNe, gNeg, gIsN, gNotN, gLen, gFst, gSnd, g31, g32, gCat, gRep, gCut, gId, gRg, gRev, gIn, gNin, gAll, gAny, gSum, gMax, gAbs, gIntB, gSort, gSet, gSset, gApp, gIns, gExt, gRevM, gSet31, gSet32, dIn, dNin, gDPut, gRepr, szOk, id, if_true, if_false, decide_eq_true_eq, true_and, and_true, Bool.false_eq_true, ite_true, ite_false, eq_self_iff_true, and_self, true_or, or_true, Int.reduceLT, Int.reduceLE, Int.reduceNeg, Int.reduceSub, Int.reduceAdd, Int.reduceMul, Int.reduceEq, Nat.reduceLT, Nat.reduceLeDiff, Nat.reduceAdd, Nat.reduceSub, Nat.reduceMul, List.length_cons, List.length_nil])
local macro_rules | `(tactic| walk_at "mr") => `(tactic| simp only [op_lnP, ln_putS, ln_putN, op_lnU, ln_putU, gMulS0, rp_dr, rp_bmF, sp_setF, rp_methT, gJoin, gCutS, gSetLS, gSplit, rp_lockV, rp_fstApp, rp_sndClr, gIt2, gItS, sp_popD, sp_subPop, sp_put2, rp_dictDD, op_popK, op_sortFK, rp_at0App, rp_rngD, sp_lockS, gBits, gMinT, gSortTp, gDictPT, gKeysT, gVNin, rp_view, rp_appD, rp_insD, rp_sdApp, sp_sp1, sp_sp2, gSp, gSortKI, gPl, gPa, gPc, gSetPl, gSetPa, gAddS, gMulS, gLenSI, gLenST, gDispT, gMulW, rx_ok, rx_bad, rx_of, rx_bind, rx_run, rx_ite, sx_nx, sx_ct, sx_bk, sx_rt, sx_so, sx_ite, sx_seq, sx_kill, sx_for, sx_ret, sx_drop, sx_set, sx_asgN, sx_if, sx_next, sx_mbk, sx_mct, rx_un, rx_op, rx_var, rx_move, rx_c, rx_opL, rx_pair, rx_pairL, rx_cons, rx_call, rx_callI, rx_bm, rx_bm0, sx_setI, rx_not, rx_and, rx_or, rx_if, rx_chain, rx_mSome, rx_mNone, rx_part, rx_sl, rx_slL, rx_rng1, rx_rng2, rx_enum, rx_lock, rx_dget2, rx_keys, rx_lc, rx_yes, rx_runD, rx_runDS, sx_raise, sx_asg, rx_unw, rx_callE, gSsetG, rp_lam, rx_out, rp_out, toL, toR, toTh, gDisp1, gRepT, gDictP, pairTh, gIsTB, gNotTB, gIsTh_int, gIsTh_bool, gIsTh_list, gIsTh_tuple, gIsTh_str, gIsTh_dict, List.map_id', rp_runD, rp_runDS, rp_runI, rp_runIS, sp_seq, sp_kill, sp_al, sp_for, sp_ret, sp_drop, sp_set, sp_asgN, sp_if, sp_next, sp_mbk, sp_mct, sp_nx, sp_ct, sp_bk, sp_rt, sp_so, sp_ite, sp_setI, rp_ok, rp_bad, rp_of, rp_bind, rp_bindN, rp_run, rp_ite, rp_un, rp_op, rp_var, rp_move, rp_c, rp_opL, rp_pair, rp_pairL, rp_pairM, rp_cons, rp_call, rp_callI, rp_bm, rp_bm0, rp_not, rp_and, rp_or, rp_if, rp_chain, rp_mSome, rp_mNone, rp_part, rp_sl, rp_slL, rp_rng1, rp_rng2, rp_enum, rp_lock, rp_dget2, rp_keys, rp_lc, rp_yes, rp_callX, rp_callXI, rp_signs, rp_unw, sp_asg, rp_ptTwo, rp_ptSub, gLen2, Ln.get_zlS, Ln.get_zlN, Ln.put_zlS, Ln.put_zlN, Ln.get_zrS, Ln.get_zrN, Ln.put_zrS, Ln.put_zrN, gSetF, gSsetF, gStep, gCut32, gMin2, gMax2, gRem, gIsi, gSortK, gStr, gLenS, gUpd, gSplit, gIntS, gSortF, op_some, op_ite, Ln.get_z, Ln.put_z, Ln.get_s, Ln.put_s, pN, p2, p3, gAdd, gSubI, gMul, gDiv, gMod, gPow, gShl, gShr, gAnd, gOr, gXor, gLt, gLe, gGt, gGe, gEq, gNe, gNeg, gIsN, gNotN, gLen, gFst, gSnd, g31, g32, gCat, gRep, gCut, gId, gRg, gRev, gIn, gNin, gAll, gAny, gSum, gMax, gAbs, gIntB, gSort, gSet, gSset, gApp, gIns, gExt, gRevM, gSet31, gSet32, dIn, dNin, gDPut, gRepr, szOk, id, if_true, if_false, decide_eq_true_eq, true_and, and_true, Bool.false_eq_true, ite_true, ite_false, eq_self_iff_true, and_self, true_or, or_true, Int.reduceLT, Int.reduceLE, Int.reduceNeg, Int.reduceSub, Int.reduceAdd, Int.reduceMul, Int.reduceEq, Nat.reduceLT, Nat.reduceLeDiff, Nat.reduceAdd, Nat.reduceSub, Nat.reduceMul, List.length_cons, List.length_nil])
local macro_rules | `(tactic| walk_at "mw") => `(tactic| simp only [rp_callMT, foldWK, asT3, op_lnP, ln_putS, ln_putN, op_lnU, ln_putU, gMulS0, rp_dr, rp_bmF, sp_setF, rp_methT, gJoin, gCutS, gSetLS, gSplit, rp_lockV, rp_fstApp, rp_sndClr, gIt2, gItS, sp_popD, sp_subPop, sp_put2, rp_dictDD, op_popK, op_sortFK, rp_at0App, rp_rngD, sp_lockS, gBits, gMinT, gSortTp, gDictPT, gKeysT, gVNin, rp_view, rp_appD, rp_insD, rp_sdApp, sp_sp1, sp_sp2, gSp, gSortKI, gPl, gPa, gPc, gSetPl, gSetPa, gAddS, gMulS, gLenSI, gLenST, gDispT, gMulW, rx_ok, rx_bad, rx_of, rx_bind, rx_run, rx_ite, sx_nx, sx_ct, sx_bk, sx_rt, sx_so, sx_ite, sx_seq, sx_kill, sx_for, sx_ret, sx_drop, sx_set, sx_asgN, sx_if, sx_next, sx_mbk, sx_mct, rx_un, rx_op, rx_var, rx_move, rx_c, rx_opL, rx_pair, rx_pairL, rx_cons, rx_call, rx_callI, rx_bm, rx_bm0, sx_setI, rx_not, rx_and, rx_or, rx_if, rx_chain, rx_mSome, rx_mNone, rx_part, rx_sl, rx_slL, rx_rng1, rx_rng2, rx_enum, rx_lock, rx_dget2, rx_keys, rx_lc, rx_yes, rx_runD, rx_runDS, sx_raise, sx_asg, rx_unw, rx_callE, gSsetG, rp_lam, rx_out, rp_out, toL, toR, toTh, gDisp1, gRepT, gDictP, pairTh, gIsTB, gNotTB, gIsTh_int, gIsTh_bool, gIsTh_list, gIsTh_tuple, gIsTh_str, gIsTh_dict, List.map_id', rp_runD, rp_runDS, rp_runI, rp_runIS, sp_seq, sp_kill, sp_al, sp_for, sp_ret, sp_drop, sp_set, sp_asgN, sp_if, sp_next, sp_mbk, sp_mct, sp_nx, sp_ct, sp_bk, sp_rt, sp_so, sp_ite, sp_setI, rp_ok, rp_bad, rp_of, rp_bind, rp_bindN, rp_run, rp_ite, rp_un, rp_op, rp_var, rp_move, rp_c, rp_opL, rp_pair, rp_pairL, rp_pairM, rp_cons, rp_call, rp_callI, rp_bm, rp_bm0, rp_not, rp_and, rp_or, rp_if, rp_chain, rp_mSome, rp_mNone, rp_part, rp_sl, rp_slL, rp_rng1, rp_rng2, rp_enum, rp_lock, rp_dget2, rp_keys, rp_lc, rp_yes, rp_callX, rp_callXI, rp_signs, rp_unw, sp_asg, rp_ptTwo, rp_ptSub, gLen2, Ln.get_zlS, Ln.get_zlN, Ln.put_zlS, Ln.put_zlN, Ln.get_zrS, Ln.get_zrN, Ln.put_zrS, Ln.put_zrN, gSetF, gSsetF, gStep, gCut32, gMin2, gMax2, gRem, gIsi, gSortK, gStr, gLenS, gUpd, gSplit, gIntS, gSortF, op_some, op_ite, Ln.get_z, Ln.put_z, Ln.get_s, Ln.put_s, pN, p2, p3, gAdd, gSubI, gMul, gDiv, gMod, gPow, gShl, gShr, gAnd, gOr, gXor, gLt, gLe, gGt, gGe, gEq, gNe, gNeg, gIsN, gNotN, gLen, gFst, gSnd, g31, g32, gCat, gRep, gCut, gId, gRg, gRev, gIn, gNin, gAll, gAny, gSum, gMax, gAbs, gIntB, gSort, gSet, gSset, gApp, gIns, gExt, gRevM, gSet31, gSet32, dIn, dNin, gDPut, gRepr, szOk, id, if_true, if_false, decide_eq_true_eq, true_and, and_true, Bool.false_eq_true, ite_true, ite_false, eq_self_iff_true, and_self, true_or, or_true, Int.reduceLT, Int.reduceLE, Int.reduceNeg, Int.reduceSub, Int.reduceAdd, Int.reduceMul, Int.reduceEq, Nat.reduceLT, Nat.reduceLeDiff, Nat.reduceAdd, Nat.reduceSub, Nat.reduceMul, List.length_cons, List.length_nil])
local macro_rules | `(tactic| walk_at "ms") => `(tactic| simp only [rp_extD, sp_each, op_lnP, ln_putS, ln_putN, op_lnU, ln_putU, gMulS0, rp_dr, rp_bmF, sp_setF, rp_methT, gJoin, gCutS, gSetLS, gSplit, rp_lockV, rp_fstApp, rp_sndClr, gIt2, gItS, sp_popD, sp_subPop, sp_put2, rp_dictDD, op_popK, op_sortFK, rp_at0App, rp_rngD, sp_lockS, gBits, gMinT, gSortTp, gDictPT, gKeysT, gVNin, rp_view, rp_appD, rp_insD, rp_sdApp, sp_sp1, sp_sp2, gSp, gSortKI, gPl, gPa, gPc, gSetPl, gSetPa, gAddS, gMulS, gLenSI, gLenST, gDispT, gMulW, rx_ok, rx_bad, rx_of, rx_bind, rx_run, rx_ite, sx_nx, sx_ct, sx_bk, sx_rt, sx_so, sx_ite, sx_seq, sx_kill, sx_for, sx_ret, sx_drop, sx_set, sx_asgN, sx_if, sx_next, sx_mbk, sx_mct, rx_un, rx_op, rx_var, rx_move, rx_c, rx_opL, rx_pair, rx_pairL, rx_cons, rx_call, rx_callI, rx_bm, rx_bm0, sx_setI, rx_not, rx_and, rx_or, rx_if, rx_chain, rx_mSome, rx_mNone, rx_part, rx_sl, rx_slL, rx_rng1, rx_rng2, rx_enum, rx_lock, rx_dget2, rx_keys, rx_lc, rx_yes, rx_runD, rx_runDS, sx_raise, sx_asg, rx_unw, rx_callE, gSsetG, rp_lam, rx_out, rp_out, toL, toR, toTh, gDisp1, gRepT, gDictP, pairTh, gIsTB, gNotTB, gIsTh_int, gIsTh_bool, gIsTh_list, gIsTh_tuple, gIsTh_str, gIsTh_dict, List.map_id', rp_runD, rp_runDS, rp_runI, rp_runIS, sp_seq, sp_kill, sp_al, sp_for, sp_ret, sp_drop, sp_set, sp_asgN, sp_if, sp_next, sp_mbk, sp_mct, sp_nx, sp_ct, sp_bk, sp_rt, sp_so, sp_ite, sp_setI, rp_ok, rp_bad, rp_of, rp_bind, rp_bindN, rp_run, rp_ite, rp_un, rp_op, rp_var, rp_move, rp_c, rp_opL, rp_pair, rp_pairL, rp_pairM, rp_cons, rp_call, rp_callI, rp_bm, rp_bm0, rp_not, rp_and, rp_or, rp_if, rp_chain, rp_mSome, rp_mNone, rp_part, rp_sl, rp_slL, rp_rng1, rp_rng2, rp_enum, rp_lock, rp_dget2, rp_keys, rp_lc, rp_yes, rp_callX, rp_callXI, rp_signs, rp_unw, sp_asg, rp_ptTwo, rp_ptSub, gLen2, Ln.get_zlS, Ln.get_zlN, Ln.put_zlS, Ln.put_zlN, Ln.get_zrS, Ln.get_zrN, Ln.put_zrS, Ln.put_zrN, gSetF, gSsetF, gStep, gCut32, gMin2, gMax2, gRem, gIsi, gSortK, gStr, gLenS, gUpd, gSplit, gIntS, gSortF, op_some, op_ite, Ln.get_z, Ln.put_z, Ln.get_s, Ln.put_s, pN, p2, p3, gAdd, gSubI, gMul, gDiv, gMod, gPow, gShl, gShr, gAnd, gOr, gXor, gLt, gLe, gGt, gGe, gEq, gNe, gNeg, gIsN, gNotN, gLen, gFst, gSnd, g31, g32, gCat, gRep, gCut, gId, gRg, gRev, gIn, gNin, gAll, gAny, gSum, gMax, gAbs, gIntB, gSort, gSet, gSset, gApp, gIns, gExt, gRevM, gSet31, gSet32, dIn, dNin, gDPut, gRepr, szOk, id, if_true, if_false, decide_eq_true_eq, true_and, and_true, Bool.false_eq_true, ite_true, ite_false, eq_self_iff_true, and_self, true_or, or_true, Int.reduceLT, Int.reduceLE, Int.reduceNeg, Int.reduceSub, Int.reduceAdd, Int.reduceMul, Int.reduceEq, Nat.reduceLT, Nat.reduceLeDiff, Nat.reduceAdd, Nat.reduceSub, Nat.reduceMul, List.length_cons, List.length_nil])
local macro_rules | `(tactic| walk_at "mu") => `(tactic| simp only [gRepT0, rp_extD, sp_each, op_lnP, ln_putS, ln_putN, op_lnU, ln_putU, gMulS0, rp_dr, rp_bmF, sp_setF, rp_methT, gJoin, gCutS, gSetLS, gSplit, rp_lockV, rp_fstApp, rp_sndClr, gIt2, gItS, sp_popD, sp_subPop, sp_put2, rp_dictDD, op_popK, op_sortFK, rp_at0App, rp_rngD, sp_lockS, gBits, gMinT, gSortTp, gDictPT, gKeysT, gVNin, rp_view, rp_appD, rp_insD, rp_sdApp, sp_sp1, sp_sp2, gSp, gSortKI, gPl, gPa, gPc, gSetPl, gSetPa, gAddS, gMulS, gLenSI, gLenST, gDispT, gMulW, rx_ok, rx_bad, rx_of, rx_bind, rx_run, rx_ite, sx_nx, sx_ct, sx_bk, sx_rt, sx_so, sx_ite, sx_seq, sx_kill, sx_for, sx_ret, sx_drop, sx_set, sx_asgN, sx_if, sx_next, sx_mbk, sx_mct, rx_un, rx_op, rx_var, rx_move, rx_c, rx_opL, rx_pair, rx_pairL, rx_cons, rx_call, rx_callI, rx_bm, rx_bm0, sx_setI, rx_not, rx_and, rx_or, rx_if, rx_chain, rx_mSome, rx_mNone, rx_part, rx_sl, rx_slL, rx_rng1, rx_rng2, rx_enum, rx_lock, rx_dget2, rx_keys, rx_lc, rx_yes, rx_runD, rx_runDS, sx_raise, sx_asg, rx_unw, rx_callE, gSsetG, rp_lam, rx_out, rp_out, toL, toR, toTh, gDisp1, gRepT, gDictP, pairTh, gIsTB, gNotTB, gIsTh_int, gIsTh_bool, gIsTh_list, gIsTh_tuple, gIsTh_str, gIsTh_dict, List.map_id', rp_runD, rp_runDS, rp_runI, rp_runIS, sp_seq, sp_kill, sp_al, sp_for, sp_ret, sp_drop, sp_set, sp_asgN, sp_if, sp_next, sp_mbk, sp_mct, sp_nx, sp_ct, sp_bk, sp_rt, sp_so, sp_ite, sp_setI, rp_ok, rp_bad, rp_of, rp_bind, rp_bindN, rp_run, rp_ite, rp_un, rp_op, rp_var, rp_move, rp_c, rp_opL, rp_pair, rp_pairL, rp_pairM, rp_cons, rp_call, rp_callI, rp_bm, rp_bm0, rp_not, rp_and, rp_or, rp_if, rp_chain, rp_mSome, rp_mNone, rp_part, rp_sl, rp_slL, rp_rng1, rp_rng2, rp_enum, rp_lock, rp_dget2, rp_keys, rp_lc, rp_yes, rp_callX, rp_callXI, rp_signs, rp_unw, sp_asg, rp_ptTwo, rp_ptSub, gLen2, Ln.get_zlS, Ln.get_zlN, Ln.put_zlS, Ln.put_zlN, Ln.get_zrS, Ln.get_zrN, Ln.put_zrS, Ln.put_zrN, gSetF, gSsetF, gStep, gCut32, gMin2, gMax2, gRem, gIsi, gSortK, gStr, gLenS, gUpd, gSplit, gIntS, gSortF, op_some, op_ite, Ln.get_z, Ln.put_z, Ln.get_s, Ln.put_s, pN, p2, p3, gAdd, gSubI, gMul, gDiv, gMod, gPow, gShl, gShr, gAnd, gOr, gXor, gLt, gLe, gGt, gGe, gEq, gNe, gNeg, gIsN, gNotN, gLen, gFst, gSnd, g31, g32, gCat, gRep, gCut, gId, gRg, gRev, gIn, gNin, gAll, gAny, gSum, gMax, gAbs, gIntB, gSort, gSet, gSset, gApp, gIns, gExt, gRevM, gSet31, gSet32, dIn, dNin, gDPut, gRepr, szOk, id, if_true, if_false, decide_eq_true_eq, true_and, and_true, Bool.false_eq_true, ite_true, ite_false, eq_self_iff_true, and_self, true_or, or_true, Int.reduceLT, Int.reduceLE, Int.reduceNeg, Int.reduceSub, Int.reduceAdd, Int.reduceMul, Int.reduceEq, Nat.reduceLT, Nat.reduceLeDiff, Nat.reduceAdd, Nat.reduceSub, Nat.reduceMul, List.length_cons, List.length_nil])
local macro_rules | `(tactic| walk_at "mv") => `(tactic| simp only [gMin2L, gKeys, gRepT0, rp_extD, sp_each, op_lnP, ln_putS, ln_putN, op_lnU, ln_putU, gMulS0, rp_dr, rp_bmF, sp_setF, rp_methT, gJoin, gCutS, gSetLS, gSplit, rp_lockV, rp_fstApp, rp_sndClr, gIt2, gItS, sp_popD, sp_subPop, sp_put2, rp_dictDD, op_popK, op_sortFK, rp_at0App, rp_rngD, sp_lockS, gBits, gMinT, gSortTp, gDictPT, gKeysT, gVNin, rp_view, rp_appD, rp_insD, rp_sdApp, sp_sp1, sp_sp2, gSp, gSortKI, gPl, gPa, gPc, gSetPl, gSetPa, gAddS, gMulS, gLenSI, gLenST, gDispT, gMulW, rx_ok, rx_bad, rx_of, rx_bind, rx_run, rx_ite, sx_nx, sx_ct, sx_bk, sx_rt, sx_so, sx_ite, sx_seq, sx_kill, sx_for, sx_ret, sx_drop, sx_set, sx_asgN, sx_if, sx_next, sx_mbk, sx_mct, rx_un, rx_op, rx_var, rx_move, rx_c, rx_opL, rx_pair, rx_pairL, rx_cons, rx_call, rx_callI, rx_bm, rx_bm0, sx_setI, rx_not, rx_and, rx_or, rx_if, rx_chain, rx_mSome, rx_mNone, rx_part, rx_sl, rx_slL, rx_rng1, rx_rng2, rx_enum, rx_lock, rx_dget2, rx_keys, rx_lc, rx_yes, rx_runD, rx_runDS, sx_raise, sx_asg, rx_unw, rx_callE, gSsetG, rp_lam, rx_out, rp_out, toL, toR, toTh, gDisp1, gRepT, gDictP, pairTh, gIsTB, gNotTB, gIsTh_int, gIsTh_bool, gIsTh_list, gIsTh_tuple, gIsTh_str, gIsTh_dict, List.map_id', rp_runD, rp_runDS, rp_runI, rp_runIS, sp_seq, sp_kill, sp_al, sp_for, sp_ret, sp_drop, sp_set, sp_asgN, sp_if, sp_next, sp_mbk, sp_mct, sp_nx, sp_ct, sp_bk, sp_rt, sp_so, sp_ite, sp_setI, rp_ok, rp_bad, rp_of, rp_bind, rp_bindN, rp_run, rp_ite, rp_un, rp_op, rp_var, rp_move, rp_c, rp_opL, rp_pair, rp_pairL, rp_pairM, rp_cons, rp_call, rp_callI, rp_bm, rp_bm0, rp_not, rp_and, rp_or, rp_if, rp_chain, rp_mSome, rp_mNone, rp_part, rp_sl, rp_slL, rp_rng1, rp_rng2, rp_enum, rp_lock, rp_dget2, rp_keys, rp_lc, rp_yes, rp_callX, rp_callXI, rp_signs, rp_unw, sp_asg, rp_ptTwo, rp_ptSub, gLen2, Ln.get_zlS, Ln.get_zlN, Ln.put_zlS, Ln.put_zlN, Ln.get_zrS, Ln.get_zrN, Ln.put_zrS, Ln.put_zrN, gSetF, gSsetF, gStep, gCut32, gMin2, gMax2, gRem, gIsi, gSortK, gStr, gLenS, gUpd, gSplit, gIntS, gSortF, op_some, op_ite, Ln.get_z, Ln.put_z, Ln.get_s, Ln.put_s, pN, p2, p3, gAdd, gSubI, gMul, gDiv, gMod, gPow, gShl, gShr, gAnd, gOr, gXor, gLt, gLe, gGt, gGe, gEq, gNe, gNeg, gIsN, gNotN, gLen, gFst, gSnd, g31, g32, gCat, gRep, gCut, gId, gRg, gRev, gIn, gNin, gAll, gAny, gSum, gMax, gAbs, gIntB, gSort, gSet, gSset, gApp, gIns, gExt, gRevM, gSet31, gSet32, dIn, dNin, gDPut, gRepr, szOk, id, if_true, if_false, decide_eq_true_eq, true_and, and_true, Bool.false_eq_true, ite_true, ite_false, eq_self_iff_true, and_self, true_or, or_true, Int.reduceLT, Int.reduceLE, Int.reduceNeg, Int.reduceSub, Int.reduceAdd, Int.reduceMul, Int.reduceEq, Nat.reduceLT, Nat.reduceLeDiff, Nat.reduceAdd, Nat.reduceSub, Nat.reduceMul, List.length_cons, List.length_nil])
local macro_rules | `(tactic| walk_at "ml") => `(tactic| simp only [gTrO, gOrN, gMin2L, gKeys, gRepT0, rp_extD, sp_each, op_lnP, ln_putS, ln_putN, op_lnU, ln_putU, gMulS0, rp_dr, rp_bmF, sp_setF, rp_methT, gJoin, gCutS, gSetLS, gSplit, rp_lockV, rp_fstApp, rp_sndClr, gIt2, gItS, sp_popD, sp_subPop, sp_put2, rp_dictDD, op_popK, op_sortFK, rp_at0App, rp_rngD, sp_lockS, gBits, gMinT, gSortTp, gDictPT, gKeysT, gVNin, rp_view, rp_appD, rp_insD, rp_sdApp, sp_sp1, sp_sp2, gSp, gSortKI, gPl, gPa, gPc, gSetPl, gSetPa, gAddS, gMulS, gLenSI, gLenST, gDispT, gMulW, rx_ok, rx_bad, rx_of, rx_bind, rx_run, rx_ite, sx_nx, sx_ct, sx_bk, sx_rt, sx_so, sx_ite, sx_seq, sx_kill, sx_for, sx_ret, sx_drop, sx_set, sx_asgN, sx_if, sx_next, sx_mbk, sx_mct, rx_un, rx_op, rx_var, rx_move, rx_c, rx_opL, rx_pair, rx_pairL, rx_cons, rx_call, rx_callI, rx_bm, rx_bm0, sx_setI, rx_not, rx_and, rx_or, rx_if, rx_chain, rx_mSome, rx_mNone, rx_part, rx_sl, rx_slL, rx_rng1, rx_rng2, rx_enum, rx_lock, rx_dget2, rx_keys, rx_lc, rx_yes, rx_runD, rx_runDS, sx_raise, sx_asg, rx_unw, rx_callE, gSsetG, rp_lam, rx_out, rp_out, toL, toR, toTh, gDisp1, gRepT, gDictP, pairTh, gIsTB, gNotTB, gIsTh_int, gIsTh_bool, gIsTh_list, gIsTh_tuple, gIsTh_str, gIsTh_dict, List.map_id', rp_runD, rp_runDS, rp_runI, rp_runIS, sp_seq, sp_kill, sp_al, sp_for, sp_ret, sp_drop, sp_set, sp_asgN, sp_if, sp_next, sp_mbk, sp_mct, sp_nx, sp_ct, sp_bk, sp_rt, sp_so, sp_ite, sp_setI, rp_ok, rp_bad, rp_of, rp_bind, rp_bindN, rp_run, rp_ite, rp_un, rp_op, rp_var, rp_move, rp_c, rp_opL, rp_pair, rp_pairL, rp_pairM, rp_cons, rp_call, rp_callI, rp_bm, rp_bm0, rp_not, rp_and, rp_or, rp_if, rp_chain, rp_mSome, rp_mNone, rp_part, rp_sl, rp_slL, rp_rng1, rp_rng2, rp_enum, rp_lock, rp_dget2, rp_keys, rp_lc, rp_yes, rp_callX, rp_callXI, rp_signs, rp_unw, sp_asg, rp_ptTwo, rp_ptSub, gLen2, Ln.get_zlS, Ln.get_zlN, Ln.put_zlS, Ln.put_zlN, Ln.get_zrS, Ln.get_zrN, Ln.put_zrS, Ln.put_zrN, gSetF, gSsetF, gStep, gCut32, gMin2, gMax2, gRem, gIsi, gSortK, gStr, gLenS, gUpd, gSplit, gIntS, gSortF, op_some, op_ite, Ln.get_z, Ln.put_z, Ln.get_s, Ln.put_s, pN, p2, p3, gAdd, gSubI, gMul, gDiv, gMod, gPow, gShl, gShr, gAnd, gOr, gXor, gLt, gLe, gGt, gGe, gEq, gNe, gNeg, gIsN, gNotN, gLen, gFst, gSnd, g31, g32, gCat, gRep, gCut, gId, gRg, gRev, gIn, gNin, gAll, gAny, gSum, gMax, gAbs, gIntB, gSort, gSet, gSset, gApp, gIns, gExt, gRevM, gSet31, gSet32, dIn, dNin, gDPut, gRepr, szOk, id, if_true, if_false, decide_eq_true_eq, true_and, and_true, Bool.false_eq_true, ite_true, ite_false, eq_self_iff_true, and_self, true_or, or_true, Int.reduceLT, Int.reduceLE, Int.reduceNeg, Int.reduceSub, Int.reduceAdd, Int.reduceMul, Int.reduceEq, Nat.reduceLT, Nat.reduceLeDiff, Nat.reduceAdd, Nat.reduceSub, Nat.reduceMul, List.length_cons, List.length_nil])
theorem atI_mod {xs : List Int} {k : Int} (h : 0 < (xs.length : Int)) : ∃ x, gIx xs (k % xs.length) = some x := by
  have h0 := Int.emod_nonneg k (show (xs.length : Int) ≠ 0 by omega)
  have h1 := Int.emod_lt_of_pos k h
  obtain ⟨j, hj⟩ : ∃ j : Nat, k % xs.length = (j : Int) := ⟨(k % xs.length).toNat, by omega⟩
  rw [hj] at h0 h1 ⊢
  exact ⟨xs[j]'(by omega), atI_nat (List.getElem?_eq_getElem _)⟩
/-- an item that is there -/
theorem ix_nat {α : Type} {xs : List α} {i : Int} (h0 : 0 ≤ i) (h1 : i < xs.length) : ∃ x ∈ xs, gIx xs i = some x := by
  obtain ⟨j, rfl⟩ : ∃ j : Nat, i = (j : Int) := ⟨i.toNat, by omega⟩
  exact ⟨xs[j]'(by omega), List.getElem_mem _, atI_nat (List.getElem?_eq_getElem _)⟩
theorem op_ix {α : Type} {xs : List α} {i : Int} {Q : α → Prop} (h0 : 0 ≤ i) (h1 : i < xs.length) (q : ∀ x ∈ xs, Q x) : OpP (gIx xs i) Q := by
  obtain ⟨x, hx, e⟩ := ix_nat h0 h1
  rw [e, op_some]
  exact q x hx
theorem mem_rng {lo hi x : Int} : x ∈ rng lo hi ↔ lo ≤ x ∧ x < hi := by
  simp only [rng, List.mem_map, List.mem_range]
  constructor
  · rintro ⟨k, hk, rfl⟩
    omega
  · rintro ⟨h1, h2⟩
    exact ⟨(x - lo).toNat, by omega, by omega⟩
theorem rng_nodup (lo hi : Int) : (rng lo hi).Nodup := by
  unfold rng
  refine List.Pairwise.map _ (R := fun x y => x ≠ y) ?_ List.nodup_range
  intro x y h e
  exact h (by omega)
theorem cut_from {α : Type} {xs : List α} {t : Int} (h0 : 0 ≤ t) : cutL xs (some t) none = xs.drop t.toNat := by
  unfold cutL
  simp only [HT.sIx]
  rw [if_neg (by omega)]
  rw [List.take_of_length_le (by rw [List.length_drop]; omega)]
  by_cases h : t.toNat ≤ xs.length
  · rw [Nat.min_eq_left h]
  · rw [Nat.min_eq_right (by omega), List.drop_length, List.drop_of_length_le (by omega)]
theorem cut_to {α : Type} {xs : List α} {t : Int} (h0 : 0 ≤ t) : cutL xs none (some t) = xs.take t.toNat := by
  unfold cutL
  simp only [HT.sIx]
  rw [if_neg (by omega), List.drop_zero, Nat.sub_zero]
  by_cases h : t.toNat ≤ xs.length
  · rw [Nat.min_eq_left h]
  · rw [Nat.min_eq_right (by omega), List.take_length, List.take_of_length_le (by omega)]
/-- within the bounds of corners -/
theorem erase_perm {α : Type} : ∀ (xs : List α) (j : Nat) (h : j < xs.length), (xs[j] :: xs.eraseIdx j).Perm xs
  | x :: xs, 0, _ => List.Perm.refl _
  | x :: xs, j + 1, h => by
    rw [List.getElem_cons_succ, List.eraseIdx_cons_succ]
    exact (List.Perm.swap _ _ _).trans ((erase_perm xs j (by simpa using h)).cons x)
theorem op_popAt {α : Type} {xs : List α} {i : Int} {Q : α × List α → Prop} (h0 : 0 ≤ i) (h1 : i < xs.length) (h2 : xs.length < 1000000) (q : ∀ x rest, (x :: rest).Perm xs → Q (x, rest)) : OpP (gPopAt xs i) Q := by
  obtain ⟨j, rfl⟩ : ∃ j : Nat, i = (j : Int) := ⟨i.toNat, by omega⟩
  unfold gPopAt
  rw [if_pos ⟨h0, by omega⟩, Int.toNat_natCast, List.getElem?_eq_getElem (by omega), Option.map_some, op_some]
  exact q _ _ (erase_perm xs j (by omega))
/-- the pen: its place, and what is left of a great cell -/
def Pn (n : Nat) (st : List Int × Int × Int) : Prop := 0 ≤ st.2.1 ∧ st.2.1 ≤ n ∧ 0 ≤ st.2.2
theorem Pn.mono {n m : Nat} {st : List Int × Int × Int} (h : Pn n st) (hm : n ≤ m) : Pn m st := ⟨h.1, by have := h.2.1; omega, h.2.2⟩
theorem q_ldraw {st : List Int × Int × Int} {m : Int} {n : Nat} (h : Pn n st) (hn : n ≤ 100000) (h0 : 0 < m) (h1 : m < 1073741824) : RsP (m_ldraw st m) fun r st' => (0 ≤ r ∧ r < m) ∧ Pn (n + 1) st' := by
  obtain ⟨sc, at', gr⟩ := st
  obtain ⟨hp1, hp3, hp2⟩ := h
  dsimp only at hp1 hp2 hp3
  unfold m_ldraw M_ldraw
  walk_at "mp"
  have r0 : ∀ a : Int, 0 ≤ a % m ∧ a % m < m := fun a => ⟨Int.emod_nonneg _ (by omega), Int.emod_lt_of_pos _ h0⟩
  have P1 : Pn (n + 1) (sc, at' + 1, gr) := ⟨by dsimp only; omega, by dsimp only; omega, hp2⟩
  have P2 : ∀ x : Int, Pn (n + 1) (sc, at' + 1, absI x / m) := fun x => ⟨by dsimp only; omega, by dsimp only; omega, Int.ediv_nonneg (absI_nonneg x) (by omega)⟩
  refine iteI (fun hg => ?_) fun hg => ?_
  · exact ⟨⟨h0, h1⟩, h0, r0 _, hp1, by dsimp only; omega, Int.ediv_nonneg hp2 (by omega)⟩
  refine ⟨.inr ⟨by omega, by omega⟩, ?_⟩
  refine cutP (fun e => ∃ x, e = (some (sc, at' + 1, gr), some m, some sc, some at', some gr, some x, none, ())) ?_ ?_
  · walk_at "mp"
    refine iteI (fun hs => ?_) fun _ => ⟨_, rfl⟩
    obtain ⟨x, hx⟩ := atI_mod (k := at') hs
    rw [hx, op_some]
    exact ⟨hs, x, rfl⟩
  · rintro e ⟨x, rfl⟩
    unfold mIfB
    walk_at "mp"
    generalize hy : (x % 2147483629 + 40507 * at' + 5) * 48271 % 2147483647 = y
    have y0 : 0 ≤ y := by rw [← hy]; exact Int.emod_nonneg _ (by decide)
    have y1 : y < 2147483647 := by rw [← hy]; exact Int.emod_lt_of_pos _ (by decide)
    have z1 : ∀ a : Int, 0 ≤ a % 2147483587 ∧ a % 2147483587 < 2147483587 := fun a => ⟨Int.emod_nonneg _ (by decide), Int.emod_lt_of_pos _ (by decide)⟩
    split
    · refine iteI (fun _ => ?_) fun _ => ?_
      · exact ⟨⟨h0, h1⟩, h0, r0 _, P2 x⟩
      · exact ⟨.inl ⟨by omega, by omega⟩, .inl ⟨by have := (z1 (y * y + 69621 * at' + 3)).1; omega, by have := (z1 (y * y + 69621 * at' + 3)).2; omega⟩, h0, r0 _, P1⟩
    · exact ⟨.inl ⟨by omega, by omega⟩, .inl ⟨by have := (z1 (y * y + 69621 * at' + 3)).1; omega, by have := (z1 (y * y + 69621 * at' + 3)).2; omega⟩, h0, r0 _, P1⟩
theorem q_lpen (ns : List Int) : RsP (m_lpen ns) fun st _ => Pn 0 st := by
  unfold m_lpen M_lpen
  walk_at "mp"
  exact ⟨Int.le_refl _, Int.le_refl _, Int.le_refl _⟩
/-- some of them, each once -/
theorem q_lpicked {st : List Int × Int × Int} {xs : List Int} {k n : Nat} (h : Pn n st) (hn : n + k ≤ 100000) (hk : k ≤ xs.length) (hx : xs.length ≤ 1000) :
    RsP (m_lpicked st xs k) fun r st' => (r.length = k ∧ ∃ rest, (r ++ rest).Perm xs) ∧ Pn (n + k) st' := by
  unfold m_lpicked M_lpicked
  walk_at "mp"
  refine cutP (fun e => ∃ st1 fd rest, e = (some st1, some xs, some (k : Int), some rest, some fd, none, ()) ∧ fd.length = k ∧ (fd ++ rest).Perm xs ∧ Pn (n + k) st1) ?_ ?_
  · walk_at "mp"
    refine ⟨by simp [bigI]; omega, ?_⟩
    refine loopR (n := k) (by omega) (fun i e => ∃ st1 fd rest, e = (some st1, some xs, some (k : Int), some rest, some fd, none, ()) ∧ fd.length = i ∧ (fd ++ rest).Perm xs ∧ Pn (n + i) st1) ⟨st, [], xs, rfl, rfl, List.Perm.refl _, h⟩ ?_ ?_
    · rintro i e hi ⟨st1, fd, rest, rfl, h1, h2, h3⟩
      have hl := h2.length_eq
      rw [List.length_append] at hl
      walk_at "mp"
      refine (q_ldraw h3 (by omega) (by omega) (by omega)).imp ?_
      rintro j st2 ⟨⟨j0, j1⟩, h4⟩
      refine op_popAt j0 j1 (by omega) fun x rest' hp => ?_
      refine ⟨by omega, st2, fd ++ [x], rest', rfl, by rw [List.length_append]; simp; omega, ?_, by rw [← Nat.add_assoc]; exact h4⟩
      rw [List.append_assoc]
      exact (hp.append_left fd).trans h2
    · rintro e ⟨st1, fd, rest, rfl, h1, h2, h3⟩
      exact ⟨st1, fd, rest, rfl, h1, h2, h3⟩
  · rintro e ⟨st1, fd, rest, rfl, h1, h2, h3⟩
    walk_at "mp"
    exact ⟨⟨h1, rest, h2⟩, h3⟩
theorem q_lpicked_t {st : List Int × Int × Int} {xs : List (List Int)} {k n : Nat} (h : Pn n st) (hn : n + k ≤ 100000) (hk : k ≤ xs.length) (hx : xs.length ≤ 1000) :
    RsP (m_lpicked_t st xs k) fun r st' => (r.length = k ∧ ∃ rest, (r ++ rest).Perm xs) ∧ Pn (n + k) st' := by
  unfold m_lpicked_t M_lpicked_t
  walk_at "mp"
  refine cutP (fun e => ∃ st1 fd rest, e = (some st1, some xs, some (k : Int), some rest, some fd, none, ()) ∧ fd.length = k ∧ (fd ++ rest).Perm xs ∧ Pn (n + k) st1) ?_ ?_
  · walk_at "mp"
    refine ⟨by simp [bigI]; omega, ?_⟩
    refine loopR (n := k) (by omega) (fun i e => ∃ st1 fd rest, e = (some st1, some xs, some (k : Int), some rest, some fd, none, ()) ∧ fd.length = i ∧ (fd ++ rest).Perm xs ∧ Pn (n + i) st1) ⟨st, [], xs, rfl, rfl, List.Perm.refl _, h⟩ ?_ ?_
    · rintro i e hi ⟨st1, fd, rest, rfl, h1, h2, h3⟩
      have hl := h2.length_eq
      rw [List.length_append] at hl
      walk_at "mp"
      refine (q_ldraw h3 (by omega) (by omega) (by omega)).imp ?_
      rintro j st2 ⟨⟨j0, j1⟩, h4⟩
      refine op_popAt j0 j1 (by omega) fun x rest' hp => ?_
      refine ⟨by omega, st2, fd ++ [x], rest', rfl, by rw [List.length_append]; simp; omega, ?_, by rw [← Nat.add_assoc]; exact h4⟩
      rw [List.append_assoc]
      exact (hp.append_left fd).trans h2
    · rintro e ⟨st1, fd, rest, rfl, h1, h2, h3⟩
      exact ⟨st1, fd, rest, rfl, h1, h2, h3⟩
  · rintro e ⟨st1, fd, rest, rfl, h1, h2, h3⟩
    walk_at "mp"
    exact ⟨⟨h1, rest, h2⟩, h3⟩
theorem q_lpicked_r {st : List Int × Int × Int} {xs : List (List Int × Th)} {k n : Nat} (h : Pn n st) (hn : n + k ≤ 100000) (hk : k ≤ xs.length) (hx : xs.length ≤ 1000) :
    RsP (m_lpicked_r st xs k) fun r st' => (r.length = k ∧ ∃ rest, (r ++ rest).Perm xs) ∧ Pn (n + k) st' := by
  unfold m_lpicked_r M_lpicked_r
  walk_at "mp"
  refine cutP (fun e => ∃ st1 fd rest, e = (some st1, some xs, some (k : Int), some rest, some fd, none, ()) ∧ fd.length = k ∧ (fd ++ rest).Perm xs ∧ Pn (n + k) st1) ?_ ?_
  · walk_at "mp"
    refine ⟨by simp [bigI]; omega, ?_⟩
    refine loopR (n := k) (by omega) (fun i e => ∃ st1 fd rest, e = (some st1, some xs, some (k : Int), some rest, some fd, none, ()) ∧ fd.length = i ∧ (fd ++ rest).Perm xs ∧ Pn (n + i) st1) ⟨st, [], xs, rfl, rfl, List.Perm.refl _, h⟩ ?_ ?_
    · rintro i e hi ⟨st1, fd, rest, rfl, h1, h2, h3⟩
      have hl := h2.length_eq
      rw [List.length_append] at hl
      walk_at "mp"
      refine (q_ldraw h3 (by omega) (by omega) (by omega)).imp ?_
      rintro j st2 ⟨⟨j0, j1⟩, h4⟩
      refine op_popAt j0 j1 (by omega) fun x rest' hp => ?_
      refine ⟨by omega, st2, fd ++ [x], rest', rfl, by rw [List.length_append]; simp; omega, ?_, by rw [← Nat.add_assoc]; exact h4⟩
      rw [List.append_assoc]
      exact (hp.append_left fd).trans h2
    · rintro e ⟨st1, fd, rest, rfl, h1, h2, h3⟩
      exact ⟨st1, fd, rest, rfl, h1, h2, h3⟩
  · rintro e ⟨st1, fd, rest, rfl, h1, h2, h3⟩
    walk_at "mp"
    exact ⟨⟨h1, rest, h2⟩, h3⟩
abbrev Up (p : List Int) : Prop := p.Pairwise (· < ·)
theorem srt_up {p : List Int} (h : p.Nodup) : Up (srt p) := by
  refine ((srt_pw p).imp_of_mem (S := fun a b => a ≤ b) fun _ _ h => h).imp₂ (fun a b h1 h2 => ?_) ((srt_perm p).nodup_iff.mpr h)
  omega
theorem up_nodup {f : List Int} (h : Up f) : f.Nodup := h.imp fun h => by omega
theorem rng_up (lo hi : Int) : Up (rng lo hi) := by
  unfold rng
  refine List.pairwise_map.mpr (List.Pairwise.imp (fun h => by omega) List.pairwise_lt_range)
/-- within the bounds of corners -/
def Bd (c : Int) : Prop := 0 - 1000000000000000000000000000000 < c ∧ c < 1000000000000000000000000000000
theorem lin_up {a b : Int} (hb : 0 < b) (n : Int) : Up ((rng 0 n).map fun k => a + b * k) := by
  refine List.pairwise_map.mpr ((rng_up 0 n).imp fun h => ?_)
  have := Int.mul_lt_mul_of_pos_left h hb
  omega
theorem q_lcorners {st : List Int × Int × Int} {k n : Nat} (h : Pn n st) (hn : n + 3 ≤ 100000) (k0 : 1 ≤ k) (hk : k ≤ 99) :
    RsP (m_lcorners st k) fun r st' => (r.length = k ∧ Up r ∧ ∀ c ∈ r, Bd c) ∧ Pn (n + 4) st' := by
  unfold m_lcorners M_lcorners
  walk_at "mp"
  refine (q_ldraw h (by omega) (by decide) (by decide)).imp ?_
  rintro j st1 ⟨⟨j0, j1⟩, h1⟩
  refine op_ix j0 (by simp; omega) fun step hs => ?_
  have hs' : step = 1 ∨ step = 3 ∨ step = 1000000007 ∨ step = 10000000000000000000000000000 := by simp at hs; omega
  have hs0 : 0 < step := by omega
  refine (q_ldraw h1 (by omega) (by omega) (by omega)).imp ?_
  rintro d st2 ⟨⟨d0, d1⟩, h2⟩
  refine ⟨.inr ⟨by omega, by omega⟩, .inr ⟨by omega, by omega⟩, ?_⟩
  refine (q_ldraw h2 (by omega) (by decide) (by decide)).imp ?_
  rintro j2 st3 ⟨⟨j20, j21⟩, h3⟩
  refine op_ix j20 (by simp; omega) fun a ha => ?_
  have hB : ∀ i : Int, 0 ≤ i → i < k → Bd (a + step * i) := fun i i0 i1 => by
    simp only [List.mem_cons, List.not_mem_nil, or_false] at ha
    unfold Bd
    rcases hs' with rfl | rfl | rfl | rfl <;> rcases ha with rfl | rfl | rfl | rfl <;> omega
  refine ⟨by simp [bigI]; omega, by rw [rng_length]; omega, lcM (fun i => a + step * i) (fun i hi => ?_) ?_⟩
  · have hi := mem_rng.mp hi
    walk_at "mp"
    exact .inr ⟨by omega, by omega⟩
  · walk_at "mp"
    refine (q_ldraw h3 (by omega) (by decide) (by decide)).imp ?_
    rintro j3 st4 ⟨⟨j30, j31⟩, h4⟩
    have hl : ((rng 0 (k : Int)).map fun i => a + step * i).length = k := by rw [List.length_map, rng_length]; omega
    have hu := lin_up (a := a) hs0 (k : Int)
    have hb : ∀ c ∈ (rng 0 (k : Int)).map fun i => a + step * i, Bd c := fun c hc => by
      obtain ⟨i, hi, rfl⟩ := List.mem_map.mp hc
      have hi := mem_rng.mp hi
      exact hB i hi.1 hi.2
    refine iteI (fun _ => ⟨⟨hl, hu, hb⟩, h4⟩) fun _ => ?_
    refine ⟨by rw [List.length_reverse, hl]; omega, lcM (fun c => 0 - c) (fun c hc => ?_) ?_⟩
    · walk_at "mp"
    · walk_at "mp"
      refine ⟨⟨by rw [List.length_map, List.length_reverse]; exact hl, ?_, fun c hc => ?_⟩, h4⟩
      · refine List.pairwise_map.mpr (List.pairwise_reverse.mpr (hu.imp fun h => by omega))
      · obtain ⟨d', hd', rfl⟩ := List.mem_map.mp hc
        have := hb d' (List.mem_reverse.mp hd')
        unfold Bd at this ⊢
        omega
open PySem PySem.Spec PyProof.Rows L2 TL PySem.NumText
abbrev nm (n : Int) : Str := Str.ofString (toString n)
def nmL (n : Int) : List Nat := if n < 0 then 45 :: numL n.natAbs else numL n.natAbs
theorem tl_nm (n : Int) : tl (nm n) = nmL n := by
  cases n with
  | ofNat m => exact tl_num m
  | negSucc m =>
    unfold nmL
    rw [if_pos (Int.negSucc_lt_zero m)]
    show tl (Str.ofString ("-" ++ Nat.repr (m + 1))) = _
    rw [tl_ofString, String.toList_append, List.map_append, Nat.toList_repr]
    rfl
theorem nm_len {n : Int} (h : Bd n) : (nm n).length ≤ 31 := by
  rw [len_tl, tl_nm]
  unfold nmL
  have := numL_len (n := n.natAbs) (k := 30) (by omega) (by unfold Bd at h; omega)
  split
  · rw [List.length_cons]; omega
  · omega
theorem nm_free {n : Int} {s : Nat} (h : s < 45 ∨ 57 < s) : s ∉ tl (nm n) := by
  rw [tl_nm]
  unfold nmL
  split
  · intro hm
    rcases List.mem_cons.mp hm with e | e
    · omega
    · exact numL_free (by omega) e
  · exact numL_free (by omega)
theorem intT_nm {n : Int} (h : Bd n) : PySem.intText? (nm n) = some n := by
  have hl := nm_len h
  by_cases hn : n < 0
  · have e : tl (nm n) = 45 :: numL n.natAbs := by rw [tl_nm]; exact if_pos hn
    have := intText_neg (x := nm n) (cs := numL n.natAbs) e (numL_digits _) (numL_ne _) (by omega)
    rw [this, numL_val]
    congr 1
    omega
  · have e : tl (nm n) = numL n.natAbs := by rw [tl_nm]; exact if_neg hn
    have := intText_digits (x := nm n) (by rw [show (nm n).cps.toList = _ from e]; exact numL_digits _) (by rw [show (nm n).cps.toList = _ from e]; exact numL_ne _) (by omega)
    rw [this, show (nm n).cps.toList = _ from e, numL_val]
    congr 1
    omega
/-- the figures of a number -/
def fig (n : Int) : Str := ⟨(numL n.natAbs).toArray⟩
theorem dig_ne (k : Nat) : ∀ c ∈ numL k, 48 ≤ c ∧ c ≤ 57 := fun c hc => numL_digits k c hc
theorem cut_one (n : Int) : (cutS (nm n) none (some 1) = ("-" : Str)) ↔ n < 0 := by
  have ht : tl (cutS (nm n) none (some 1)) = (nmL n).take 1 := by
    show (List.drop 0 (tl (nm n))).take (HT.sIx (nm n).length (nm n).length (some ((1 : Nat) : Int)) - 0) = _
    rw [HT.sIx_nat, tl_nm, len_tl, tl_nm, List.drop_zero]
    have : 1 ≤ (nmL n).length := by
      unfold nmL
      have := List.length_pos_iff.mpr (numL_ne n.natAbs)
      split
      · rw [List.length_cons]; omega
      · omega
    rw [Nat.min_eq_left this]
  have ed : tl ("-" : Str) = [45] := by decide
  constructor
  · intro e
    rw [e, ed] at ht
    unfold nmL at ht
    split at ht
    · next h => exact h
    · cases hc : numL n.natAbs with
      | nil => exact absurd hc (numL_ne _)
      | cons c cs =>
        rw [hc] at ht
        have := dig_ne n.natAbs c (by rw [hc]; simp)
        have : (45 : Nat) = c := by simpa using ht
        omega
  · intro h
    refine ext_tl ?_
    rw [ht, ed]
    unfold nmL
    rw [if_pos h]
    rfl
theorem cut_fig (n : Int) : cutS (nm n) (some (if n < 0 then 1 else 0)) none = fig n := by
  refine ext_tl ?_
  show (List.drop (HT.sIx (nm n).length 0 (some (if n < 0 then 1 else 0))) (tl (nm n))).take ((nm n).length - HT.sIx (nm n).length 0 (some (if n < 0 then 1 else 0))) = numL n.natAbs
  have e : HT.sIx (nm n).length 0 (some (if n < 0 then 1 else 0)) = if n < 0 then 1 else 0 := by
    have : 1 ≤ (nm n).length := by
      rw [len_tl, tl_nm]
      unfold nmL
      have := List.length_pos_iff.mpr (numL_ne n.natAbs)
      split
      · rw [List.length_cons]; omega
      · omega
    split
    · show HT.sIx _ _ (some ((1 : Nat) : Int)) = 1
      rw [HT.sIx_nat]; omega
    · show HT.sIx _ _ (some ((0 : Nat) : Int)) = 0
      rw [HT.sIx_nat]; omega
  rw [e, len_tl, tl_nm]
  unfold nmL
  by_cases h : n < 0
  · rw [if_pos h, if_pos h]; simp
  · rw [if_neg h, if_neg h]; simp
theorem numL_head : ∀ m : Nat, ∃ c cs, numL m = c :: cs ∧ (c = 48 → m = 0) := by
  intro m
  induction m using Nat.strongRecOn with
  | _ m ih =>
    by_cases h : m < 10
    · exact ⟨48 + m, [], numL_lt h, fun e => by omega⟩
    · obtain ⟨c, cs, e1, e2⟩ := ih (m / 10) (by omega)
      exact ⟨c, cs ++ [48 + m % 10], by rw [numL_step (by omega), e1]; rfl, fun e => by have := e2 e; omega⟩
theorem tl_fig (n : Int) : tl (fig n) = numL n.natAbs := rfl
theorem q_number_in {n : Int} (h : Bd n) : RsP (m_number_in (nm n)) fun r _ => r = some n := by
  have hl := nm_len h
  have hfl : (fig n).length ≤ 30 := by rw [len_tl, tl_fig]; exact numL_len (by omega) (by unfold Bd at h; omega)
  have hf1 : 1 ≤ (fig n).length := by rw [len_tl, tl_fig]; exact List.length_pos_iff.mpr (numL_ne _)
  unfold m_number_in M_number_in
  walk_at "mp"
  refine ⟨by omega, by omega, ?_⟩
  have ec : cutS (nm n) (some (if cutS (nm n) none (some 1) = Str.ofString "-" then 1 else 0)) none = fig n := by
    rw [← cut_fig n]
    congr 2
    by_cases hn : n < 0
    · rw [if_pos hn, if_pos ((cut_one n).mpr hn)]
    · rw [if_neg hn, if_neg fun e => hn ((cut_one n).mp e)]
  rw [ec]
  obtain ⟨c, cs, e1, e2⟩ := numL_head n.natAbs
  refine ifB (e' := (some (nm n), some (fig n), none, ())) False ?_ (fun z => z.elim) fun _ => ?_
  · walk_at "mp"
    refine ⟨by omega, ?_⟩
    rw [if_pos (by omega), if_neg (by simp; omega)]
    refine ⟨by rw [show (signs (fig n)).length = (tl (fig n)).length from List.length_map .., ← len_tl]; omega, lcM (fun _ => true) (fun x hx => ?_) ?_⟩
    · obtain ⟨d, hd, rfl⟩ := List.mem_map.mp hx
      have hd := dig_ne _ d hd
      have : gInSg ⟨#[d]⟩ (Str.ofString "0123456789") = some true := by
        show some (decide (d ∈ tl (Str.ofString "0123456789"))) = some true
        rw [show tl (Str.ofString "0123456789") = [48, 49, 50, 51, 52, 53, 54, 55, 56, 57] by decide]
        congr 1
        refine decide_eq_true ?_
        simp only [List.mem_cons, List.not_mem_nil, or_false]
        omega
      walk_at "mp"
      rw [this, op_some]
    · walk_at "mp"
      simp
  · walk_at "mp"
    refine ifB (e' := (some (nm n), some (fig n), none, ())) False ?_ (fun z => z.elim) fun _ => ?_
    · walk_at "mp"
      have : gIxStr (fig n) 0 = some ⟨#[c]⟩ := by
        unfold gIxStr
        rw [if_pos (by omega)]
        show (atI (tl (fig n)) 0).map _ = _
        rw [tl_fig, e1]
        simp [atI, ixN]
      rw [this, op_some]
      refine iteI (fun z => ?_) fun _ => trivial
      have z := congrArg tl z
      rw [show tl (Str.ofString "0") = [48] by decide] at z
      have z : c = 48 := (List.cons.inj (show [c] = [48] from z)).1
      have z := e2 z
      obtain rfl : n = 0 := by omega
      rw [show nm 0 = Str.ofString "0" by decide]
      simp
    · walk_at "mp"
      refine ⟨by omega, ?_⟩
      rw [intT_nm h, op_some]
open PySem PySem.Spec PyProof.Rows L2 TL PySem.NumText
theorem joinL_len (S : List Nat) : ∀ ps : List (List Nat), (joinL S ps).length ≤ (ps.map (·.length)).sum + ps.length * S.length
  | [] => by simp [joinL]
  | [p] => by simp [joinL]
  | p :: q :: r => by
    have := joinL_len S (q :: r)
    rw [show joinL S (p :: q :: r) = p ++ (S ++ joinL S (q :: r)) from rfl, List.length_append, List.length_append, List.map_cons, List.sum_cons, List.length_cons, Nat.succ_mul]
    omega
theorem joinL_mem (S : List Nat) {c : Nat} : ∀ ps : List (List Nat), c ∈ joinL S ps → c ∈ S ∨ ∃ p ∈ ps, c ∈ p
  | [], h => by cases h
  | [p], h => .inr ⟨p, by simp, h⟩
  | p :: q :: r, h => by
    rw [show joinL S (p :: q :: r) = p ++ (S ++ joinL S (q :: r)) from rfl] at h
    rcases List.mem_append.mp h with h | h
    · exact .inr ⟨p, by simp, h⟩
    · rcases List.mem_append.mp h with h | h
      · exact .inl h
      · rcases joinL_mem S (q :: r) h with h | ⟨z, hz, h⟩
        · exact .inl h
        · exact .inr ⟨z, List.mem_cons_of_mem _ hz, h⟩
theorem tl_Join (y : Str) (ps : List Str) : tl (Txt.join y ps) = joinL (tl y) (ps.map tl) := by rw [join_eq, tl_join]
theorem sum_le_of {m : Nat} : ∀ {ys : List Str}, (∀ y ∈ ys, y.length ≤ m) → (ys.map (·.length)).sum ≤ m * ys.length
  | [], _ => by simp
  | y :: ys, h => by
    have := sum_le_of fun z hz => h z (List.mem_cons_of_mem _ hz)
    have := h y (by simp)
    rw [List.map_cons, List.sum_cons, List.length_cons, Nat.mul_succ]
    omega
theorem Join_len {m : Nat} {y : Str} {ps : List Str} (h : ∀ p ∈ ps, p.length ≤ m) : (Txt.join y ps).length ≤ m * ps.length + ps.length * y.length := by
  have h1 := joinL_len (tl y) (ps.map tl)
  rw [← tl_Join, ← len_tl, ← len_tl, List.map_map, List.length_map] at h1
  have h2 := sum_le_of h
  have : (ps.map (List.length ∘ tl)) = ps.map (·.length) := List.map_congr_left fun p _ => (len_tl p).symm
  rw [show (ps.map ((fun x => x.length) ∘ tl)) = ps.map (·.length) from this] at h1
  omega
def line (w : Str) (xs : List Int) : Str := Txt.join " " (w :: xs.map nm)
theorem line_len {w : Str} {xs : List Int} (hw : w.length ≤ 6) (hl : xs.length ≤ 45) (hb : ∀ x ∈ xs, Bd x) : (line w xs).length ≤ 1600 := by
  have := Join_len (m := 31) (y := " ") (ps := w :: xs.map nm) fun p hp => by
    rcases List.mem_cons.mp hp with e | hp
    · rw [e]; omega
    · obtain ⟨x, hx, rfl⟩ := List.mem_map.mp hp
      exact nm_len (hb x hx)
  rw [List.length_cons, List.length_map, show (" " : Str).length = 1 by decide] at this
  unfold line
  omega
theorem line_free {w : Str} {xs : List Int} (hw : 10 ∉ tl w) : 10 ∉ tl (line w xs) := fun h => by
  unfold line at h
  rw [tl_Join] at h
  rcases joinL_mem _ _ h with h | ⟨p, hp, h⟩
  · rw [show tl (" " : Str) = [32] by decide] at h
    simp at h
  · obtain ⟨q, hq, rfl⟩ := List.mem_map.mp hp
    rcases List.mem_cons.mp hq with e | hq
    · rw [e] at h; exact hw h
    · obtain ⟨x, hx, rfl⟩ := List.mem_map.mp hq
      exact nm_free (by omega) h
theorem split_line {w : Str} {xs : List Int} (hw : 32 ∉ tl w) : Txt.split (line w xs) (Str.ofString " ") = w :: xs.map nm := by
  refine split_join (y := (" " : Str)) (s := 32) (S := []) (by decide) (by rw [← Array.all_toList]; decide) (by simp) fun p hp => ?_
  rcases List.mem_cons.mp hp with e | hp
  · rw [e]; exact hw
  · obtain ⟨x, hx, rfl⟩ := List.mem_map.mp hp
    exact nm_free (by omega)
def txt (ls : List Str) : Str := Txt.join "\n" ls
theorem split_txt {ls : List Str} (h : ls ≠ []) (hf : ∀ l ∈ ls, 10 ∉ tl l) : Txt.split (txt ls) (Str.ofString "\n") = ls := split_join (y := ("\n" : Str)) (s := 10) (S := []) (by decide) (by rw [← Array.all_toList]; decide) h hf
theorem txt_len {ls : List Str} (h : ∀ l ∈ ls, l.length ≤ 1600) : (txt ls).length ≤ 1601 * ls.length := by
  have := Join_len (m := 1600) (y := "\n") h
  rw [show ("\n" : Str).length = 1 by decide] at this
  unfold txt
  omega
theorem nm_log {x : Int} (h : Bd x) : x.natAbs.log2 < 1920 := by
  by_cases h0 : x.natAbs = 0
  · rw [h0]; decide
  · rw [Nat.log2_lt h0]
    have : x.natAbs < 10 ^ 30 := by unfold Bd at h; omega
    exact Nat.lt_trans this (by decide)
theorem q_line_of {w : Str} {xs : List Int} (hw : w.length ≤ 6) (hl : xs.length ≤ 45) (hb : ∀ x ∈ xs, Bd x) : RsP (m_line_of w xs) fun r _ => r = line w xs := by
  unfold m_line_of M_line_of
  walk_at "mp"
  refine ⟨by omega, lcM nm (fun x hx => ?_) ?_⟩
  · walk_at "mp"
    exact nm_log (hb x hx)
  · have hL := line_len hw hl hb
    have hs := sum_le_of (m := 31) (ys := w :: xs.map nm) fun p hp => by
      rcases List.mem_cons.mp hp with e | hp
      · rw [e]; omega
      · obtain ⟨x, hx, rfl⟩ := List.mem_map.mp hp
        exact nm_len (hb x hx)
    rw [List.length_cons, List.length_map] at hs
    simp only [List.length_map, List.singleton_append, List.length_cons]
    rw [show (Str.ofString " ").length = 1 by decide]
    exact ⟨by omega, by omega, rfl⟩
theorem q_line_of_l {w : Str} {xs : List Int} (hw : w.length ≤ 6) (hl : xs.length ≤ 45) (hb : ∀ x ∈ xs, Bd x) : RsP (m_line_of_l w xs) fun r _ => r = line w xs := by
  unfold m_line_of_l M_line_of_l
  walk_at "mp"
  refine ⟨by omega, lcM nm (fun x hx => ?_) ?_⟩
  · walk_at "mp"
    exact nm_log (hb x hx)
  · have hL := line_len hw hl hb
    have hs := sum_le_of (m := 31) (ys := w :: xs.map nm) fun p hp => by
      rcases List.mem_cons.mp hp with e | hp
      · rw [e]; omega
      · obtain ⟨x, hx, rfl⟩ := List.mem_map.mp hp
        exact nm_len (hb x hx)
    rw [List.length_cons, List.length_map] at hs
    simp only [List.length_map, List.singleton_append, List.length_cons]
    rw [show (Str.ofString " ").length = 1 by decide]
    exact ⟨by omega, by omega, rfl⟩
theorem q_lline {w : Str} {xs : List Int} (hw : w.length ≤ 6) (hl : xs.length ≤ 45) (hb : ∀ x ∈ xs, Bd x) : RsP (m_lline w xs) fun r _ => r = line w xs := by
  unfold m_lline M_lline
  walk_at "mp"
  refine ⟨by omega, lcM nm (fun x hx => ?_) ?_⟩
  · walk_at "mp"
    exact nm_log (hb x hx)
  · have hL := line_len hw hl hb
    have hs := sum_le_of (m := 31) (ys := w :: xs.map nm) fun p hp => by
      rcases List.mem_cons.mp hp with e | hp
      · rw [e]; omega
      · obtain ⟨x, hx, rfl⟩ := List.mem_map.mp hp
        exact nm_len (hb x hx)
    rw [List.length_cons, List.length_map] at hs
    simp only [List.length_map, List.singleton_append, List.length_cons]
    rw [show (Str.ofString " ").length = 1 by decide]
    exact ⟨by omega, by omega, rfl⟩
theorem q_lline_l {w : Str} {xs : List Int} (hw : w.length ≤ 6) (hl : xs.length ≤ 45) (hb : ∀ x ∈ xs, Bd x) : RsP (m_lline_l w xs) fun r _ => r = line w xs := by
  unfold m_lline_l M_lline_l
  walk_at "mp"
  refine ⟨by omega, lcM nm (fun x hx => ?_) ?_⟩
  · walk_at "mp"
    exact nm_log (hb x hx)
  · have hL := line_len hw hl hb
    have hs := sum_le_of (m := 31) (ys := w :: xs.map nm) fun p hp => by
      rcases List.mem_cons.mp hp with e | hp
      · rw [e]; omega
      · obtain ⟨x, hx, rfl⟩ := List.mem_map.mp hp
        exact nm_len (hb x hx)
    rw [List.length_cons, List.length_map] at hs
    simp only [List.length_map, List.singleton_append, List.length_cons]
    rw [show (Str.ofString " ").length = 1 by decide]
    exact ⟨by omega, by omega, rfl⟩
theorem q_lines_of {ls : List Str} (h : ls ≠ []) (hf : ∀ l ∈ ls, 10 ∉ tl l ∧ l.length ≤ 1600) (hl : ls.length ≤ 100) : RsP (m_lines_of (txt ls)) fun r _ => r = ls := by
  unfold m_lines_of M_lines_of
  walk_at "mp"
  have := txt_len fun l h => (hf l h).2
  rw [if_neg (by simp)]
  exact ⟨⟨by decide, by omega⟩, split_txt h fun l h => (hf l h).1⟩
theorem allM_id {α : Type} : ∀ xs : List α, allM (fun o => o) (xs.map some) = some xs
  | [] => rfl
  | x :: xs => by
    rw [List.map_cons]
    unfold allM
    simp [allM_id xs]
theorem q_rising_in {xs : List Int} (hu : Up xs) (hl : xs.length ≤ 45) (hb : ∀ x ∈ xs, Bd x) : RsP (m_rising_in (xs.map nm)) fun r _ => r = some xs := by
  unfold m_rising_in M_rising_in
  walk_at "mp"
  refine ⟨by rw [List.length_map]; omega, lcM PySem.intText? (fun s hs => ?_) ?_⟩
  · obtain ⟨x, hx, rfl⟩ := List.mem_map.mp hs
    walk_at "mp"
    refine (q_number_in (hb x hx)).imp ?_
    rintro r _ rfl
    exact (intT_nm (hb x hx)).symm
  · have e : (xs.map nm).map PySem.intText? = xs.map some := by
      rw [List.map_map]
      exact List.map_congr_left fun x hx => intT_nm (hb x hx)
    rw [e]
    refine ifB (e' := (some (xs.map nm), some (xs.map some), none, none, ())) False ?_ (fun z => z.elim) fun _ => ?_
    · walk_at "mp"
      rw [if_neg (by simp), List.length_map]
      refine ⟨⟨by decide, by simp [bigI]; omega⟩, by rw [rng_length]; omega, lcM (fun _ => true) (fun k hk => ?_) ?_⟩
      · have hk := mem_rng.mp hk
        walk_at "mp"
        have g : ∀ k : Int, 0 ≤ k → k < xs.length → ∃ a, xs[k.toNat]? = some a ∧ gIx (xs.map some) k = some (some a) := fun k h0 h1 => by
          refine ⟨xs[k.toNat]'(by omega), List.getElem?_eq_getElem (by omega), ?_⟩
          unfold gIx atI ixN
          rw [if_pos h0, if_pos (by rw [List.length_map]; exact h1), Option.bind_some, List.getElem?_map, List.getElem?_eq_getElem (by omega), Option.map_some]
        obtain ⟨a, ha, ea⟩ := g (k - 1) (by omega) (by omega)
        obtain ⟨b, hb', eb⟩ := g k (by omega) (by omega)
        rw [ea, op_some, op_some, eb, op_some, op_some]
        obtain ⟨h1, e1⟩ := List.getElem?_eq_some_iff.mp ha
        obtain ⟨h2, e2⟩ := List.getElem?_eq_some_iff.mp hb'
        rw [← e1, ← e2]
        exact List.pairwise_iff_getElem.mp hu _ _ h1 h2 (by omega)
      · walk_at "mp"
        simp
    · walk_at "mp"
      rw [allM_id, op_some]
open PySem PySem.Spec PyProof.Rows L2 TL PySem.NumText
theorem q_face_in {xs : List Int} (hu : Up xs) (hl : xs.length ≤ 6) (hb : ∀ x ∈ xs, Bd x) : RsP (m_face_in (xs.map nm)) fun r _ => r = some xs := by
  unfold m_face_in M_face_in
  walk_at "mp"
  refine (q_rising_in hu (by omega) hb).imp ?_
  rintro r _ rfl
  refine ifB (e' := (some (xs.map nm), some (some xs), ())) False ?_ (fun z => z.elim) fun _ => ?_
  · walk_at "mp"
    rw [if_neg (by simp)]
    exact ⟨fun z => by omega, False.elim⟩
  · walk_at "mp"
theorem q_place_in {n : Int} (h : Bd n) (h0 : 0 ≤ n) : RsP (m_place_in (nm n)) fun r _ => r = some n := by
  unfold m_place_in M_place_in
  walk_at "mp"
  refine (q_number_in h).imp ?_
  rintro r _ rfl
  refine ifB (e' := (some (nm n), some (some n), ())) False ?_ (fun z => z.elim) fun _ => ?_
  · walk_at "mp"
    rw [if_neg (by simp)]
    exact ⟨fun z => by omega, False.elim⟩
  · walk_at "mp"
open PySem PySem.Spec PyProof.Rows L2 TL PySem.NumText
abbrev Cut := Option (Int × List Int)
abbrev fI (f : List Int) : Th := .tup (f.map .int)
abbrev lI (f : List Int) : Th := .lst (f.map .int)
abbrev cutT : Cut → Th := oTh fun p => Th.tup [Th.int p.1, (fun xs => Th.tup (List.map Th.int xs)) p.2]
abbrev rowP (r : List Int × Cut) : List Int × Th := (r.1, cutT r.2)
abbrev rowT (r : List Int × Th) : Th := Th.tup [(fun xs => Th.tup (List.map Th.int xs)) r.1, (fun t => t) r.2]
inductive Br where
  | apart (ns : List Int)
  | num (w : Str) (k : Int)
  | evens (ss : List (List Int))
  | sets (rs : List (List Int × Cut))
  | link (f : List Int) (b : Br)
namespace Br
/-- as a thing -/
def th : Br → Th
  | apart ns => .tup [.str "apart", lI ns]
  | num w k => .tup [.str w, .int k]
  | evens ss => .tup [.str "evens", .lst (ss.map lI)]
  | sets rs => .tup [.str "sets", .lst ((rs.map rowP).map rowT)]
  | link f b => .tup [.str "link", fI f, b.th]
def rowL : List Int × Cut → Str
  | (l, none) => line "set" l
  | (l, some (k, f)) => line "cut" l ++ " " ++ line "by" (k :: f)
/-- its lines -/
def lns : Br → List Str
  | apart ns => [line "apart" ns]
  | num w k => [line w [k]]
  | evens ss => ss.map (line "even")
  | sets rs => rs.map rowL
  | link f b => line "link" f :: b.lns
/-- numbers of pieces -/
structure Ns (ns : List Int) : Prop where
  up : Up ns
  bd : ∀ x ∈ ns, Bd x
  p0 : ∀ x ∈ ns, 0 ≤ x
  len : ns.length ≤ 40
structure Fc (f : List Int) : Prop where
  up : Up f
  bd : ∀ x ∈ f, Bd x
  len : f.length ≤ 6
def CutOk : Cut → Prop
  | none => True
  | some (k, f) => (0 ≤ k ∧ Bd k) ∧ Fc f
def RowOk (r : List Int × Cut) : Prop := Ns r.1 ∧ CutOk r.2
/-- a bar as may be written, with so many links -/
def Ok : Nat → Br → Prop
  | _, apart ns => Ns ns ∧ ns ≠ []
  | _, num w k => (w = "counts" ∨ w = "unlike") ∧ 0 ≤ k ∧ Bd k
  | _, evens ss => (∀ s ∈ ss, Ns s ∧ s ≠ []) ∧ ss ≠ [] ∧ ss.length ≤ 20
  | _, sets rs => (∀ r ∈ rs, RowOk r) ∧ rs ≠ [] ∧ rs.length ≤ 20
  | 0, link _ _ => False
  | n + 1, link f b => (Fc f ∧ f ≠ []) ∧ b.Ok n
end Br
open Br
theorem allM_int (xs : List Int) : allM asI (xs.map Th.int) = some xs := allM_map (f := asI) (g := Th.int) (fun _ => rfl) xs
theorem as_fI (f : List Int) : asTs asI (fI f) = some f := allM_int f
theorem as_lI (f : List Int) : asLs asI (lI f) = some f := allM_int f
theorem as_LL (ss : List (List Int)) : asLs (asLs asI) (.lst (ss.map lI)) = some ss := allM_map (f := asLs asI) (g := lI) (fun ks => allM_int ks) ss
theorem as_row (p : List Int × Th) : asT2 (asTs asI) (fun t => some t) (rowT p) = some p := by
  unfold asT2
  dsimp only
  rw [show asTs asI (Th.tup (List.map Th.int p.1)) = some p.1 from allM_int _]
  rfl
theorem as_rows (rows : List (List Int × Th)) : asLs (asT2 (asTs asI) (fun t => some t)) (.lst (rows.map rowT)) = some rows := allM_map (f := asT2 (asTs asI) (fun t => some t)) (g := rowT) as_row rows
theorem as_cut (k : Int) (f : List Int) : asT2 asI (asTs asI) (cutT (some (k, f))) = some (k, f) := by
  show asT2 asI (asTs asI) (Th.tup [Th.int k, Th.tup (List.map Th.int f)]) = _
  unfold asT2
  dsimp only
  rw [show asTs asI (Th.tup (List.map Th.int f)) = some f from allM_int _]
  rfl
theorem line_le {w : Str} {m : Nat} {xs : List Int} (hw : w.length ≤ m) (hb : ∀ x ∈ xs, Bd x) : (line w xs).length ≤ m + 1 + 32 * xs.length := by
  have h1 := joinL_len (tl " ") ((w :: xs.map nm).map tl)
  rw [← tl_Join, ← len_tl, List.map_map, List.length_map, List.length_cons, List.length_map, List.map_cons, List.sum_cons, List.map_map] at h1
  have h2 := sum_le_of (m := 31) (ys := xs.map nm) fun p hp => by
    obtain ⟨x, hx, rfl⟩ := List.mem_map.mp hp
    exact nm_len (hb x hx)
  rw [List.length_map, List.map_map] at h2
  have e1 : ((fun x => x.length) ∘ tl) w = w.length := (len_tl w).symm
  have e2 : (List.map (((fun x => x.length) ∘ tl) ∘ nm) xs).sum = (List.map ((fun x => x.length) ∘ nm) xs).sum := by
    congr 1
  rw [e1, e2, show (tl (" " : Str)).length = 1 by decide] at h1
  show (Txt.join " " (w :: xs.map nm)).length ≤ _
  omega
theorem rowL_len {r : List Int × Cut} (h : RowOk r) : (rowL r).length ≤ 1600 := by
  obtain ⟨l, c⟩ := r
  obtain ⟨h1, h2⟩ := h
  have l1 : l.length ≤ 40 := h1.len
  cases c with
  | none => exact line_len (w := "set") (by decide) (by omega) h1.bd
  | some p =>
    obtain ⟨k, f⟩ := p
    have l2 : f.length ≤ 6 := h2.2.len
    show (line "cut" l ++ " " ++ line "by" (k :: f)).length ≤ 1600
    have a := line_le (w := "cut") (m := 3) (xs := l) (by decide) h1.bd
    have b := line_le (w := "by") (m := 3) (xs := k :: f) (by decide) fun x hx => by
      rcases List.mem_cons.mp hx with rfl | hx
      · exact h2.1.2
      · exact h2.2.bd x hx
    rw [List.length_cons] at b
    rw [len_tl, tl_append, tl_append, List.length_append, List.length_append, ← len_tl, ← len_tl, ← len_tl, show (" " : Str).length = 1 by decide]
    omega
open PySem PySem.Spec PyProof.Rows L2 TL PySem.NumText
open Br
theorem bd_cons {k : Int} {f : List Int} (h : Bd k) (hb : ∀ x ∈ f, Bd x) : ∀ x ∈ k :: f, Bd x := fun x hx => by
  rcases List.mem_cons.mp hx with rfl | hx
  · exact h
  · exact hb x hx
theorem gix0 {α : Type} {a : α} {xs : List α} : gIx (a :: xs) 0 = some a := by simp [gIx, atI, ixN]
theorem gix1 {α : Type} {a b : α} {xs : List α} : gIx (a :: b :: xs) 1 = some b := by
  unfold gIx atI ixN
  rw [if_pos (by decide), if_pos (by simp only [List.length_cons]; omega)]
  rfl
theorem gix2 {α : Type} {a b c : α} {xs : List α} : gIx (a :: b :: c :: xs) 2 = some c := by
  unfold gIx atI ixN
  rw [if_pos (by decide), if_pos (by simp only [List.length_cons]; omega)]
  rfl
theorem cut_inv : ∀ c : Cut, asT2 asI (asTs asI) (cutT c) = c
  | none => rfl
  | some (k, f) => as_cut k f
theorem rows_map (rs : List (List Int × Cut)) : (rs.map rowP).map (fun p => rowL (p.1, asT2 asI (asTs asI) p.2)) = rs.map rowL := by
  rw [List.map_map]
  refine List.map_congr_left fun r _ => ?_
  show rowL (r.1, asT2 asI (asTs asI) (cutT r.2)) = rowL r
  rw [cut_inv]
theorem q_row_line {r : List Int × Cut} (h : RowOk r) : RsP (m_row_line (rowP r)) fun s _ => s = rowL r := by
  obtain ⟨l, c⟩ := r
  obtain ⟨h1, h2⟩ := h
  have h1 : Ns l := h1
  have l1 : l.length ≤ 40 := h1.len
  unfold m_row_line M_row_line
  walk_at "ml"
  cases c with
  | none =>
    show OpP (some true) _
    rw [op_some, if_pos rfl]
    exact (q_line_of (w := "set") (xs := l) (by decide) (by omega) h1.bd).imp fun r _ hr => hr
  | some p =>
    obtain ⟨k, f⟩ := p
    have l2 : f.length ≤ 6 := h2.2.len
    have hb := bd_cons h2.1.2 h2.2.bd
    show OpP (some false) _
    rw [op_some, if_neg (by decide), as_cut]
    refine (q_line_of (w := "cut") (xs := l) (by decide) (by omega) h1.bd).imp ?_
    rintro a _ rfl
    have la := line_len (w := "cut") (by decide) (show l.length ≤ 45 by omega) h1.bd
    have lb := line_len (w := "by") (xs := k :: f) (by decide) (by rw [List.length_cons]; omega) hb
    refine ⟨by rw [show (Str.ofString " ").length = 1 by decide]; omega, ?_⟩
    rw [op_some, op_some]
    refine ⟨by dsimp only; omega, (q_line_of (w := "by") (xs := k :: f) (by decide) (by rw [List.length_cons]; omega) hb).imp ?_⟩
    rintro c _ rfl
    refine ⟨?_, rfl⟩
    rw [len_tl, tl_append, List.length_append, ← len_tl, ← len_tl, show (Str.ofString " ").length = 1 by decide]
    omega
theorem ok_num {n : Nat} {w : Str} {k : Int} (h : Ok n (.num w k)) : (w = "counts" ∨ w = "unlike") ∧ 0 ≤ k ∧ Bd k := by cases n <;> exact h
theorem ok_apart {n : Nat} {ns : List Int} (h : Ok n (.apart ns)) : Ns ns ∧ ns ≠ [] := by cases n <;> exact h
theorem ok_evens {n : Nat} {ss : List (List Int)} (h : Ok n (.evens ss)) : (∀ s ∈ ss, Ns s ∧ s ≠ []) ∧ ss ≠ [] ∧ ss.length ≤ 20 := by cases n <;> exact h
theorem ok_sets {n : Nat} {rs : List (List Int × Cut)} (h : Ok n (.sets rs)) : (∀ r ∈ rs, RowOk r) ∧ rs ≠ [] ∧ rs.length ≤ 20 := by cases n <;> exact h
/-- no link's -/
def Br.lone : Br → Bool
  | .link _ _ => false
  | _ => true
theorem q_lines_in {n : Nat} {b : Br} (h : b.Ok n) (hl : b.lone = true) : RsP (m_lines_in b.th) fun s _ => s = b.lns := by
  unfold m_lines_in M_lines_in
  walk_at "ml"
  cases b with
  | link f b => cases hl
  | apart ns =>
    obtain ⟨h1, h2⟩ := ok_apart h
    have := h1.len
    simp only [Br.th, asT, asS, op_some, gix0, gix1, as_lI]
    rw [if_neg (by decide), if_neg (by decide), if_pos trivial]
    exact (q_line_of_l (w := "apart") (by decide) (by omega) h1.bd).imp fun r _ hr => by rw [hr]; rfl
  | num w k =>
    obtain ⟨h1, h2, h3⟩ := ok_num h
    simp only [Br.th, asT, asS, asI, op_some, gix0, gix1]
    have hw : w ≠ Str.ofString "sets" ∧ w ≠ Str.ofString "evens" ∧ w ≠ Str.ofString "apart" ∧ w.length ≤ 6 := by
      rcases h1 with rfl | rfl <;> decide
    rw [if_neg hw.1, if_neg hw.2.1, if_neg hw.2.2.1]
    exact (q_line_of (w := w) (xs := [k]) hw.2.2.2 (by simp) (by simpa using h3)).imp fun r _ hr => by rw [hr]; rfl
  | evens ss =>
    obtain ⟨h1, h2, h3⟩ := ok_evens h
    simp only [Br.th, asT, asS, op_some, gix0, gix1, as_LL]
    rw [if_neg (by decide), if_pos trivial]
    refine ⟨by omega, lcM (fun s => line "even" s) (fun s hs => ?_) rfl⟩
    have := (h1 s hs).1.len
    walk_at "ml"
    exact q_line_of_l (w := "even") (by decide) (by omega) (h1 s hs).1.bd
  | sets rs =>
    obtain ⟨h1, h2, h3⟩ := ok_sets h
    simp only [Br.th, asT, asS, op_some, gix0, gix1, as_rows]
    rw [if_pos trivial]
    refine ⟨by rw [List.length_map]; omega, lcM (fun p => rowL (p.1, asT2 asI (asTs asI) p.2)) (fun p hp => ?_) (rows_map rs)⟩
    obtain ⟨r, hr, rfl⟩ := List.mem_map.mp hp
    walk_at "ml"
    refine (q_row_line (h1 r hr)).imp ?_
    rintro s _ rfl
    show rowL r = rowL (r.1, asT2 asI (asTs asI) (cutT r.2))
    rw [cut_inv]
open PySem PySem.Spec PyProof.Rows L2 TL PySem.NumText
open Br
theorem lns_len {n : Nat} : ∀ {b : Br}, b.Ok n → b.lns.length ≤ n + 20 ∧ b.lns ≠ []
  | .apart ns, h => ⟨by simp only [lns, List.length_cons, List.length_nil]; omega, by simp [lns]⟩
  | .num w k, h => ⟨by simp only [lns, List.length_cons, List.length_nil]; omega, by simp [lns]⟩
  | .evens ss, h => by
    obtain ⟨h1, h2, h3⟩ := ok_evens h
    exact ⟨by simp only [lns, List.length_map]; omega, by simpa [lns] using h2⟩
  | .sets rs, h => by
    obtain ⟨h1, h2, h3⟩ := ok_sets h
    exact ⟨by simp only [lns, List.length_map]; omega, by simpa [lns] using h2⟩
  | .link f b, h => by
    cases n with
    | zero => exact h.elim
    | succ n =>
      have := lns_len (n := n) (b := b) h.2
      exact ⟨by simp only [lns, List.length_cons]; omega, by simp [lns]⟩
theorem rowL_free {r : List Int × Cut} : 10 ∉ tl (rowL r) := by
  obtain ⟨l, c⟩ := r
  cases c with
  | none => exact line_free (by decide)
  | some p =>
    obtain ⟨k, f⟩ := p
    show 10 ∉ tl (line "cut" l ++ " " ++ line "by" (k :: f))
    rw [tl_append, tl_append]
    intro h
    rcases List.mem_append.mp h with h | h
    · rcases List.mem_append.mp h with h | h
      · exact line_free (by decide) h
      · rw [show tl (" " : Str) = [32] by decide] at h
        simp at h
    · exact line_free (by decide) h
theorem lns_free {n : Nat} : ∀ {b : Br}, b.Ok n → ∀ l ∈ b.lns, 10 ∉ tl l ∧ l.length ≤ 1600
  | .apart ns, h, l, hl => by
    obtain ⟨h1, h2⟩ := ok_apart h
    rw [List.mem_singleton.mp hl]
    exact ⟨line_free (by decide), line_len (by decide) (by have := h1.len; omega) h1.bd⟩
  | .num w k, h, l, hl => by
    obtain ⟨h1, h2, h3⟩ := ok_num h
    rw [List.mem_singleton.mp hl]
    rcases h1 with rfl | rfl
    · exact ⟨line_free (by decide), line_len (by decide) (by simp) (by simpa using h3)⟩
    · exact ⟨line_free (by decide), line_len (by decide) (by simp) (by simpa using h3)⟩
  | .evens ss, h, l, hl => by
    obtain ⟨h1, h2, h3⟩ := ok_evens h
    obtain ⟨s, hs, rfl⟩ := List.mem_map.mp hl
    exact ⟨line_free (by decide), line_len (by decide) (by have := (h1 s hs).1.len; omega) (h1 s hs).1.bd⟩
  | .sets rs, h, l, hl => by
    obtain ⟨h1, h2, h3⟩ := ok_sets h
    obtain ⟨r, hr, rfl⟩ := List.mem_map.mp hl
    exact ⟨rowL_free, rowL_len (h1 r hr)⟩
  | .link f b, h, l, hl => by
    cases n with
    | zero => exact h.elim
    | succ n =>
      rcases List.mem_cons.mp hl with rfl | hl
      · exact ⟨line_free (by decide), line_len (by decide) (by have := h.1.1.len; omega) h.1.1.bd⟩
      · exact lns_free (n := n) (b := b) h.2 l hl
theorem word_num {n : Nat} {w : Str} {k : Int} (h : Ok n (.num w k)) : w ≠ Str.ofString "link" := by
  rcases (ok_num h).1 with rfl | rfl <;> decide
/-- how many links -/
def Br.deep : Br → Nat
  | .link _ b => b.deep + 1
  | _ => 0
theorem deep_le {n : Nat} : ∀ {b : Br}, b.Ok n → b.deep ≤ n
  | .apart ns, h => Nat.zero_le _
  | .num w k, h => Nat.zero_le _
  | .evens ss, h => Nat.zero_le _
  | .sets rs, h => Nat.zero_le _
  | .link f b, h => by
    cases n with
    | zero => exact h.elim
    | succ n => exact Nat.succ_le_succ (deep_le (n := n) (b := b) h.2)
theorem q_show_bar {n : Nat} {b : Br} (h : b.Ok n) (hn : n ≤ 5) : RsP (m_show_bar b.th) fun s _ => s = txt b.lns := by
  unfold m_show_bar M_show_bar
  walk_at "ml"
  refine cutP (fun e => ∃ (ls : List Str) (b' : Br) (n' : Nat), e = (some b'.th, some ls, ()) ∧ b'.Ok n' ∧ b'.lone = true ∧ ls ++ b'.lns = b.lns) ?_ ?_
  · refine whileP (fun m e => ∃ (ls : List Str) (b' : Br) (n' : Nat), e = (some b'.th, some ls, ()) ∧ b'.Ok n' ∧ b'.deep = m ∧ n' + ls.length ≤ n ∧ ls ++ b'.lns = b.lns) ?_ 1000000000 b.deep _ ?_ ⟨[], b, n, rfl, h, rfl, by simp, rfl⟩
    · rintro m e ⟨ls, b', n', rfl, h1, h2, h3, h4⟩
      walk_at "ml"
      cases b' with
      | link f b1 =>
        cases n' with
        | zero => exact h1.elim
        | succ n1 =>
          simp only [Br.th, asT, asS, op_some, gix0, gix1, gix2, as_fI]
          rw [if_pos trivial]
          obtain ⟨⟨f1, f2⟩, f3⟩ := h1
          refine ⟨b1.deep, by rw [← h2]; rfl, (q_line_of (w := "link") (xs := f) (by decide) (by have := f1.len; omega) f1.bd).imp ?_⟩
          rintro a _ rfl
          refine ⟨by omega, ls ++ [line "link" f], b1, n1, rfl, f3, rfl, by rw [List.length_append, List.length_singleton]; omega, ?_⟩
          rw [← h4, List.append_assoc]
          rfl
      | apart ns =>
        simp only [Br.th, asT, asS, op_some, gix0]
        rw [if_neg (by decide)]
        exact ⟨ls, .apart ns, n', rfl, h1, rfl, h4⟩
      | num w k =>
        simp only [Br.th, asT, asS, op_some, gix0]
        rw [if_neg (word_num h1)]
        exact ⟨ls, .num w k, n', rfl, h1, rfl, h4⟩
      | evens ss =>
        simp only [Br.th, asT, asS, op_some, gix0]
        rw [if_neg (by decide)]
        exact ⟨ls, .evens ss, n', rfl, h1, rfl, h4⟩
      | sets rs =>
        simp only [Br.th, asT, asS, op_some, gix0]
        rw [if_neg (by decide)]
        exact ⟨ls, .sets rs, n', rfl, h1, rfl, h4⟩
    · exact Nat.lt_of_le_of_lt (deep_le h) (by omega)
  · rintro e ⟨ls, b', n', rfl, h1, h2, h3⟩
    walk_at "ml"
    refine (q_lines_in h1 h2).imp ?_
    rintro a _ rfl
    rw [h3]
    have hl := (lns_len h).1
    have hs := sum_le_of (m := 1600) (ys := b.lns) fun l hl => (lns_free h l hl).2
    have hl3 := congrArg List.length h3
    rw [List.length_append] at hl3
    rw [show (Str.ofString "\n").length = 1 by decide]
    exact ⟨by omega, by omega, rfl⟩
open PySem PySem.Spec PyProof.Rows L2 TL PySem.NumText
open Br
theorem q_lbar_lines : ∀ {n : Nat} {b : Br} {d : Nat}, b.Ok n → n < d → n ≤ 5 → RsP (m_lbar_lines d b.th) fun s _ => s = b.lns := by
  intro n b d
  induction d generalizing n b with
  | zero => intro _ h _; omega
  | succ d ih =>
    intro h hd hn
    unfold m_lbar_lines M_lbar_lines
    walk_at "ml"
    cases b with
    | link f b1 =>
      cases n with
      | zero => exact h.elim
      | succ n1 =>
        simp only [Br.th, asT, asS, op_some, gix0, gix1, gix2, as_fI]
        rw [if_pos trivial]
        obtain ⟨⟨f1, f2⟩, f3⟩ := h
        refine (q_lline (w := "link") (xs := f) (by decide) (by have := f1.len; omega) f1.bd).imp ?_
        rintro a _ rfl
        refine (ih f3 (by omega) (by omega)).imp ?_
        rintro r _ rfl
        have := (lns_len f3).1
        exact ⟨by omega, rfl⟩
    | apart ns =>
      obtain ⟨h1, h2⟩ := ok_apart h
      have := h1.len
      simp only [Br.th, asT, asS, op_some, gix0, gix1, as_lI]
      rw [if_neg (by decide), if_pos trivial]
      exact (q_lline_l (w := "apart") (xs := ns) (by decide) (by omega) h1.bd).imp fun r _ hr => by rw [hr]; rfl
    | num w k =>
      obtain ⟨h1, h2, h3⟩ := ok_num h
      simp only [Br.th, asT, asS, asI, op_some, gix0, gix1]
      have hw : w ≠ Str.ofString "link" ∧ w ≠ Str.ofString "evens" ∧ w ≠ Str.ofString "apart" ∧ w ≠ Str.ofString "sets" ∧ w.length ≤ 6 := by
        rcases h1 with rfl | rfl <;> decide
      rw [if_neg hw.1, if_neg hw.2.2.1, if_neg hw.2.1]
      refine iteI (fun _ => ?_) fun z => absurd z (by simpa using hw.2.2.2.1)
      exact (q_lline (w := w) (xs := [k]) hw.2.2.2.2 (by simp) (by simpa using h3)).imp fun r _ hr => by rw [hr]; rfl
    | evens ss =>
      obtain ⟨h1, h2, h3⟩ := ok_evens h
      simp only [Br.th, asT, asS, op_some, gix0, gix1, as_LL]
      rw [if_neg (by decide), if_neg (by decide), if_pos trivial]
      refine ⟨by omega, lcM (fun s => line "even" s) (fun s hs => ?_) rfl⟩
      have := (h1 s hs).1.len
      walk_at "ml"
      exact q_lline_l (w := "even") (xs := s) (by decide) (by omega) (h1 s hs).1.bd
    | sets rs =>
      obtain ⟨h1, h2, h3⟩ := ok_sets h
      simp only [Br.th, asT, asS, op_some, gix0, gix1, as_rows]
      rw [if_neg (by decide), if_neg (by decide), if_neg (by decide)]
      refine iteI (fun z => absurd z (by simp)) fun _ => ?_
      refine cutP (fun e => e = (some (Br.th (.sets rs)), some (rs.map rowL), none, none, none, ())) ?_ ?_
      · rw [sp_kill]
        walk_at "ml"
        simp only [asT, op_some, gix1, as_rows]
        refine loopP (fun i e => e = (some (Br.th (.sets rs)), some ((rs.take i).map rowL), none, none, none, ())) (by simp [Br.th]) ?_ ?_
        · rintro i p e hi rfl
          rw [List.getElem?_map] at hi
          obtain ⟨⟨l, c⟩, hr, rfl⟩ := Option.map_eq_some_iff.mp hi
          have hm := h1 _ (List.mem_of_getElem? hr)
          obtain ⟨g1, g2⟩ := hm
          have g1 : Ns l := g1
          have l1 : l.length ≤ 40 := g1.len
          have hlen : ((rs.take i).map rowL).length ≤ 20 := by rw [List.length_map, List.length_take]; omega
          rw [List.take_succ, hr, List.map_append]
          generalize (rs.take i).map rowL = A at hlen ⊢
          rw [sp_kill]
          walk_at "ml"
          cases c with
          | none =>
            show OpP (some true) _
            rw [op_some, if_pos rfl]
            refine (q_lline (w := "set") (xs := l) (by decide) (by omega) g1.bd).imp ?_
            rintro a _ rfl
            exact ⟨by omega, rfl⟩
          | some p =>
            obtain ⟨k, f⟩ := p
            have l2 : f.length ≤ 6 := g2.2.len
            have hb := bd_cons g2.1.2 g2.2.bd
            show OpP (some false) _
            rw [op_some, if_neg (by decide), as_cut]
            refine (q_lline (w := "cut") (xs := l) (by decide) (by omega) g1.bd).imp ?_
            rintro a _ rfl
            have la := line_len (w := "cut") (by decide) (show l.length ≤ 45 by omega) g1.bd
            have lb := line_len (w := "by") (xs := k :: f) (by decide) (by rw [List.length_cons]; omega) hb
            refine ⟨by rw [show (Str.ofString " ").length = 1 by decide]; omega, ?_⟩
            rw [op_some, op_some]
            refine ⟨by dsimp only; omega, (q_lline (w := "by") (xs := k :: f) (by decide) (by rw [List.length_cons]; omega) hb).imp ?_⟩
            rintro c _ rfl
            refine ⟨?_, by omega, rfl⟩
            rw [len_tl, tl_append, List.length_append, ← len_tl, ← len_tl, show (Str.ofString " ").length = 1 by decide]
            omega
        · rintro e rfl
          rw [List.length_map, List.take_length]
          rfl
      · rintro e rfl
        walk_at "ml"
        rfl
open PySem PySem.Spec PyProof.Rows L2 TL PySem.NumText
open Br
theorem cut_1 {α : Type} {x : α} {xs : List α} : cutL (x :: xs) (some 1) none = xs := by
  rw [cut_from (by decide)]
  rfl
theorem split_ok {x : Str} (h : x.length ≤ 1600) : ((Str.ofString " ").length == 0) = false ∧ x.length ≤ 16777214 := ⟨by decide, by omega⟩
theorem q_word_of {w : Str} {xs : List Int} (hw : 32 ∉ tl w) (hl : (line w xs).length ≤ 1600) : RsP (m_word_of (line w xs)) fun r _ => r = w := by
  unfold m_word_of M_word_of
  walk_at "ml"
  refine ⟨split_ok hl, ?_⟩
  rw [split_line hw, gix0, op_some]
theorem q_some_in {ns : List Int} (h : Ns ns) : RsP (m_some_in (ns.map nm)) fun r _ => r = some ns := by
  unfold m_some_in M_some_in
  walk_at "ml"
  have := h.len
  refine (q_rising_in h.up (by omega) h.bd).imp ?_
  rintro r _ rfl
  refine ifB (e' := (some (ns.map nm), some (some ns), ())) False ?_ (fun z => z.elim) fun _ => ?_
  · walk_at "ml"
    rw [if_neg (by simp)]
    cases ns with
    | nil => simp
    | cons x xs =>
      have := h.p0 x (by simp)
      refine iteI (fun _ => ?_) fun z => absurd z (by simp)
      rw [gix0, op_some]
      simp
      omega
  · walk_at "ml"
theorem q_cut_in {k : Int} {f : List Int} (h0 : 0 ≤ k) (hk : Bd k) (hf : Fc f) : RsP (m_cut_in ((k :: f).map nm)) fun r _ => r = some (k, f) := by
  unfold m_cut_in M_cut_in
  walk_at "ml"
  show OpP (some false) _
  rw [op_some, if_neg (by decide), List.map_cons, gix0, op_some, cut_1]
  refine (q_place_in hk h0).imp ?_
  rintro a _ rfl
  refine (q_face_in hf.up hf.len hf.bd).imp ?_
  rintro c _ rfl
  refine ifB (e' := (some (nm k :: f.map nm), some (some k), some (some f), ())) False ?_ (fun z => z.elim) fun _ => ?_
  · walk_at "ml"
    simp
  · walk_at "ml"
theorem q_even_in {ns : List Int} (h : Ns ns) (h1 : ns ≠ []) : RsP (m_even_in (line "even" ns)) fun r _ => r = some ns := by
  have := h.len
  have hl := line_len (w := "even") (xs := ns) (by decide) (by omega) h.bd
  unfold m_even_in M_even_in
  walk_at "ml"
  refine ⟨split_ok hl, ?_⟩
  rw [split_line (by decide), gix0, op_some, if_neg (by simp), cut_1]
  refine (q_some_in h).imp ?_
  rintro r _ rfl
  cases ns with
  | nil => exact absurd rfl h1
  | cons x xs => rfl
theorem joinL_app (S : List Nat) : ∀ {A B : List (List Nat)}, A ≠ [] → B ≠ [] → joinL S (A ++ B) = joinL S A ++ (S ++ joinL S B)
  | [], _, h, _ => absurd rfl h
  | [a], [], _, h => absurd rfl h
  | [a], b :: B, _, _ => rfl
  | a :: a' :: A, B, _, h => by
    have := joinL_app S (A := a' :: A) (B := B) (by simp) h
    rw [List.cons_append, show joinL S (a :: ((a' :: A) ++ B)) = a ++ (S ++ joinL S ((a' :: A) ++ B)) from rfl, this, show joinL S (a :: a' :: A) = a ++ (S ++ joinL S (a' :: A)) from rfl]
    simp only [List.append_assoc]
def cutW (l : List Int) (k : Int) (f : List Int) : List Str := (("cut" : Str) :: l.map nm) ++ (("by" : Str) :: (k :: f).map nm)
theorem cut_join (l : List Int) (k : Int) (f : List Int) : line "cut" l ++ " " ++ line "by" (k :: f) = Txt.join " " (cutW l k f) := by
  refine ext_tl ?_
  unfold cutW
  rw [tl_append, tl_append, tl_Join, List.map_append, joinL_app _ (by simp) (by simp)]
  unfold line
  rw [tl_Join, tl_Join, List.append_assoc]
theorem split_cut (l : List Int) (k : Int) (f : List Int) : Txt.split (line "cut" l ++ " " ++ line "by" (k :: f)) (Str.ofString " ") = cutW l k f := by
  rw [cut_join]
  refine split_join (y := (" " : Str)) (s := 32) (S := []) (by decide) (by rw [← Array.all_toList]; decide) (by simp [cutW]) fun p hp => ?_
  unfold cutW at hp
  rcases List.mem_append.mp hp with hp | hp
  · rcases List.mem_cons.mp hp with e | hp
    · rw [e]; decide
    · obtain ⟨x, hx, rfl⟩ := List.mem_map.mp hp
      exact nm_free (by omega)
  · rcases List.mem_cons.mp hp with e | hp
    · rw [e]; decide
    · obtain ⟨x, hx, rfl⟩ := List.mem_map.mp hp
      exact nm_free (by omega)
theorem cut_two {α : Type} {xs : List α} {i j : Nat} (h1 : i ≤ j) (h2 : j ≤ xs.length) : cutL xs (some (i : Int)) (some (j : Int)) = (xs.drop i).take (j - i) := by
  unfold cutL
  rw [show HT.sIx xs.length 0 (some (i : Int)) = min i xs.length from HT.sIx_nat _ _ i, show HT.sIx xs.length xs.length (some (j : Int)) = min j xs.length from HT.sIx_nat _ _ j, Nat.min_eq_left h2, Nat.min_eq_left (by omega)]
theorem by_nm (x : Int) : nm x ≠ ("by" : Str) := fun e => by
  have : (98 : Nat) ∈ tl (nm x) := by rw [e]; decide
  exact nm_free (by omega) this
theorem by_at (l : List Int) (k : Int) (f : List Int) : (cutW l k f).idxOf ("by" : Str) = l.length + 1 := by
  unfold cutW
  rw [List.idxOf_append, if_neg, List.idxOf_cons_self, List.length_cons, List.length_map, Nat.zero_add]
  intro h
  rcases List.mem_cons.mp h with h | h
  · exact absurd h (by decide)
  · obtain ⟨x, _, e⟩ := List.mem_map.mp h
    exact by_nm x e
theorem q_set_in {r : List Int × Cut} (h : RowOk r) : RsP (m_set_in (rowL r)) fun o _ => o = some (rowP r) := by
  have hl := rowL_len h
  obtain ⟨l, c⟩ := r
  obtain ⟨h1, h2⟩ := h
  have h1 : Ns l := h1
  have l1 := h1.len
  unfold m_set_in M_set_in
  walk_at "ml"
  refine ⟨split_ok hl, ?_⟩
  cases c with
  | none =>
    rw [show rowL (l, none) = line "set" l from rfl, split_line (by decide), gix0, op_some, if_pos rfl, cut_1]
    refine (q_some_in h1).imp ?_
    rintro r _ rfl
    rw [if_neg (by simp), op_some]
    rfl
  | some p =>
    obtain ⟨k, f⟩ := p
    rw [show rowL (l, some (k, f)) = line "cut" l ++ " " ++ line "by" (k :: f) from rfl, split_cut]
    have e0 : gIx (cutW l k f) 0 = some ("cut" : Str) := gix0
    have hby : ("by" : Str) ∈ cutW l k f := by unfold cutW; simp
    rw [e0, op_some, if_neg (by decide)]
    refine ifB (e' := (some (line "cut" l ++ " " ++ line "by" (k :: f)), some (cutW l k f), none, none, none, ())) False ?_ (fun z => z.elim) fun _ => ?_
    · walk_at "ml"
      rw [e0, op_some]
      simp [hby]
    · walk_at "ml"
      have e1 : gIdxS (cutW l k f) (Str.ofString "by") = some ((l.length + 1 : Nat) : Int) := by
        unfold gIdxS
        rw [if_pos hby, by_at]
      have hlw : (cutW l k f).length = l.length + 2 + (f.length + 1) := by unfold cutW; simp; omega
      have e2 : cutL (cutW l k f) (some 1) (some ((l.length + 1 : Nat) : Int)) = l.map nm := by
        rw [show (some (1 : Int)) = some ((1 : Nat) : Int) from rfl, cut_two (by omega) (by omega)]
        unfold cutW
        rw [List.cons_append, List.drop_succ_cons, List.drop_zero, List.take_left' (by rw [List.length_map]; omega)]
      have e3 : cutL (cutW l k f) (some (((l.length + 1 : Nat) : Int) + 1)) none = (k :: f).map nm := by
        rw [cut_from (by omega), show (((l.length + 1 : Nat) : Int) + 1).toNat = l.length + 2 by omega]
        unfold cutW
        rw [show ((Str.ofString "cut" :: l.map nm) ++ (Str.ofString "by" :: (k :: f).map nm)) = ((Str.ofString "cut" :: l.map nm) ++ [Str.ofString "by"]) ++ (k :: f).map nm by simp, List.drop_left' (by simp)]
      rw [e1, op_some, e2, e3]
      refine (q_some_in h1).imp ?_
      rintro a _ rfl
      refine (q_cut_in h2.1.1 h2.1.2 h2.2).imp ?_
      rintro c _ rfl
      refine ifB (e' := (some (line "cut" l ++ " " ++ line "by" (k :: f)), some (cutW l k f), some (some l), some ((l.length + 1 : Nat) : Int), some (some (k, f)), ())) False ?_ (fun z => z.elim) fun _ => ?_
      · walk_at "ml"
        simp
      · walk_at "ml"
open PySem PySem.Spec PyProof.Rows L2 TL PySem.NumText
open Br
theorem q_many_read_e {ls : List Str} {ss : List (List Int)} {at' : Nat} (h : ls.drop at' = ss.map (line "even")) (hl : ls.length ≤ 100) (ha : at' ≤ ls.length) (hs : ∀ s ∈ ss, Ns s ∧ s ≠ []) : RsP (m_many_read_e ls (at' : Int) m_even_in) fun r _ => r = ss := by
  have hd := congrArg List.length h
  rw [List.length_drop, List.length_map] at hd
  unfold m_many_read_e M_many_read_e
  walk_at "ml"
  refine cutP (fun e => e = (some ls, some (at' : Int), some m_even_in, some ss, none, none, ())) ?_ ?_
  · rw [sp_kill]
    walk_at "ml"
    refine ⟨⟨by simp [bigI]; omega, by simp [bigI]; omega⟩, ?_⟩
    refine loopP (fun i e => e = (some ls, some (at' : Int), some m_even_in, some (ss.take i), none, none, ())) (by simp) ?_ ?_
    · rintro i x e hx rfl
      obtain ⟨hi, rfl⟩ := rng_get hx
      have hi : i < ss.length := by omega
      rw [sp_kill]
      walk_at "ml"
      have e1 : gIx ls ((at' : Int) + (i : Int)) = some (line "even" ss[i]) := by
        rw [show (at' : Int) + (i : Int) = ((at' + i : Nat) : Int) by omega]
        refine atI_nat ?_
        rw [← List.getElem?_drop, h, List.getElem?_map, List.getElem?_eq_getElem hi]
        rfl
      obtain ⟨g1, g2⟩ := hs _ (List.getElem_mem hi)
      rw [e1, op_some]
      refine (q_even_in g1 g2).imp ?_
      rintro r _ rfl
      rw [if_neg (by simp), op_some, List.take_succ, List.getElem?_eq_getElem hi]
      exact ⟨by rw [List.length_take]; omega, rfl⟩
    · rintro e rfl
      rw [rng_length, List.take_of_length_le (by omega)]
      rfl
  · rintro e rfl
    walk_at "ml"
theorem q_many_read_s {ls : List Str} {ss : List (List Int × Cut)} {at' : Nat} (h : ls.drop at' = ss.map rowL) (hl : ls.length ≤ 100) (ha : at' ≤ ls.length) (hs : ∀ s ∈ ss, RowOk s) : RsP (m_many_read_s ls (at' : Int) m_set_in) fun r _ => r = ss.map rowP := by
  have hd := congrArg List.length h
  rw [List.length_drop, List.length_map] at hd
  unfold m_many_read_s M_many_read_s
  walk_at "ml"
  refine cutP (fun e => e = (some ls, some (at' : Int), some m_set_in, some (ss.map rowP), none, none, ())) ?_ ?_
  · rw [sp_kill]
    walk_at "ml"
    refine ⟨⟨by simp [bigI]; omega, by simp [bigI]; omega⟩, ?_⟩
    refine loopP (fun i e => e = (some ls, some (at' : Int), some m_set_in, some ((ss.take i).map rowP), none, none, ())) (by simp) ?_ ?_
    · rintro i x e hx rfl
      obtain ⟨hi, rfl⟩ := rng_get hx
      have hi : i < ss.length := by omega
      rw [sp_kill]
      walk_at "ml"
      have e1 : gIx ls ((at' : Int) + (i : Int)) = some (rowL ss[i]) := by
        rw [show (at' : Int) + (i : Int) = ((at' + i : Nat) : Int) by omega]
        refine atI_nat ?_
        rw [← List.getElem?_drop, h, List.getElem?_map, List.getElem?_eq_getElem hi]
        rfl
      rw [e1, op_some]
      refine (q_set_in (hs _ (List.getElem_mem hi))).imp ?_
      rintro r _ rfl
      rw [if_neg (by simp), op_some, List.take_succ, List.getElem?_eq_getElem hi]
      rw [List.map_append]
      exact ⟨by rw [List.length_map, List.length_take]; omega, rfl⟩
    · rintro e rfl
      rw [rng_length, List.take_of_length_le (by omega)]
      rfl
  · rintro e rfl
    walk_at "ml"
theorem at_A {ls A B : List Str} {x : Str} (h : ls = A ++ x :: B) : gIx ls (A.length : Int) = some x := atI_nat (by rw [h]; simp)
theorem q_lone_read_n {ls : List Str} {A : List Str} {w : Str} {k : Int} (h : ls = A ++ [line w [k]]) (hw : w = "counts" ∨ w = "unlike") (h0 : 0 ≤ k) (hk : Bd k) (hl : ls.length ≤ 100) : RsP (m_lone_read ls (A.length : Int)) fun r _ => r = Br.th (.num w k) := by
  have hw2 : 32 ∉ tl w ∧ w.length ≤ 6 ∧ w ≠ Str.ofString "apart" := by rcases hw with rfl | rfl <;> decide
  have hlen := congrArg List.length h
  rw [List.length_append, List.length_singleton] at hlen
  have hL := line_len (w := w) (xs := [k]) hw2.2.1 (by simp) (by simpa using hk)
  unfold m_lone_read M_lone_read
  walk_at "ml"
  rw [at_A h, op_some]
  refine ⟨split_ok hL, ?_⟩
  rw [split_line hw2.1]
  refine cutP (fun e => e = (some ls, some (A.length : Int), some (w :: [k].map nm), some (Th.int k), ())) ?_ ?_
  · walk_at "ml"
    rw [gix0, op_some, if_neg hw2.2.2, if_pos (by simp)]
    rw [show ([k].map nm) = [nm k] from rfl, gix1, op_some]
    refine (q_place_in hk h0).imp ?_
    rintro r _ rfl
    rfl
  · rintro e rfl
    walk_at "ml"
    show OpP (some false) _
    rw [op_some, if_neg (by decide), if_neg (by omega), gix0, op_some]
    rfl
theorem q_lone_read_a {ls : List Str} {A : List Str} {ns : List Int} (h : ls = A ++ [line "apart" ns]) (hn : Ns ns) (h1 : ns ≠ []) (hl : ls.length ≤ 100) : RsP (m_lone_read ls (A.length : Int)) fun r _ => r = Br.th (.apart ns) := by
  have := hn.len
  have hlen := congrArg List.length h
  rw [List.length_append, List.length_singleton] at hlen
  have hL := line_len (w := "apart") (xs := ns) (by decide) (by omega) hn.bd
  unfold m_lone_read M_lone_read
  walk_at "ml"
  rw [at_A h, op_some]
  refine ⟨split_ok hL, ?_⟩
  rw [split_line (by decide)]
  refine cutP (fun e => e = (some ls, some (A.length : Int), some (("apart" : Str) :: ns.map nm), some (lI ns), ())) ?_ ?_
  · walk_at "ml"
    rw [gix0, op_some, if_pos rfl, cut_1]
    refine (q_some_in hn).imp ?_
    rintro r _ rfl
    cases ns with
    | nil => exact absurd rfl h1
    | cons x xs => rfl
  · rintro e rfl
    walk_at "ml"
    show OpP (some false) _
    rw [op_some, if_neg (by decide), if_neg (by omega), gix0, op_some]
    rfl
open PySem PySem.Spec PyProof.Rows L2 TL PySem.NumText
open Br
theorem word_rowL {r : List Int × Cut} (h : RowOk r) : ∃ w : Str, (w = "set" ∨ w = "cut") ∧ RsP (m_word_of (rowL r)) fun s _ => s = w := by
  have hl := rowL_len h
  obtain ⟨l, c⟩ := r
  cases c with
  | none => exact ⟨_, .inl rfl, q_word_of (w := "set") (by decide) hl⟩
  | some p =>
    obtain ⟨k, f⟩ := p
    refine ⟨_, .inr rfl, ?_⟩
    rw [show rowL (l, some (k, f)) = line "cut" l ++ " " ++ line "by" (k :: f) from rfl] at hl ⊢
    unfold m_word_of M_word_of
    walk_at "ml"
    refine ⟨split_ok hl, ?_⟩
    rw [split_cut]
    have e0 : gIx (cutW l k f) 0 = some ("cut" : Str) := gix0
    rw [e0, op_some]
theorem q_inner_read {n : Nat} {b : Br} {ls A : List Str} (h : b.Ok n) (hl : b.lone = true) (he : ls = A ++ b.lns) (h100 : ls.length ≤ 100) : RsP (m_inner_read ls (A.length : Int)) fun r _ => r = b.th := by
  have hlen := congrArg List.length he
  rw [List.length_append] at hlen
  have hne := (lns_len h).2
  have hpos := List.length_pos_iff.mpr hne
  unfold m_inner_read M_inner_read
  walk_at "ml"
  rw [if_neg (by omega)]
  cases b with
  | link f b => cases hl
  | apart ns =>
    obtain ⟨h1, h2⟩ := ok_apart h
    have he : ls = A ++ [line "apart" ns] := he
    have := h1.len
    rw [at_A he, op_some]
    refine (q_word_of (w := "apart") (by decide) (line_len (w := "apart") (xs := ns) (by decide) (by omega) h1.bd)).imp ?_
    rintro w _ rfl
    refine iteI (fun _ => q_lone_read_a he h1 h2 h100) fun z => absurd z (by simp)
  | num w k =>
    obtain ⟨h1, h2, h3⟩ := ok_num h
    have he : ls = A ++ [line w [k]] := he
    have hw2 : 32 ∉ tl w ∧ w.length ≤ 6 ∧ w ∈ [Str.ofString "apart", Str.ofString "counts", Str.ofString "unlike"] := by rcases h1 with rfl | rfl <;> decide
    rw [at_A he, op_some]
    refine (q_word_of (w := w) hw2.1 (line_len (w := w) (xs := [k]) hw2.2.1 (by simp) (by simpa using h3))).imp ?_
    rintro w' _ rfl
    rw [if_pos hw2.2.2]
    exact q_lone_read_n he h1 h2 h3 h100
  | evens ss =>
    obtain ⟨h1, h2, h3⟩ := ok_evens h
    cases ss with
    | nil => exact absurd rfl h2
    | cons s0 ss0 =>
      have hs := (h1 s0 (by simp)).1
      have hsl := hs.len
      rw [at_A (show ls = A ++ line "even" s0 :: ss0.map (line "even") from he), op_some]
      refine (q_word_of (w := "even") (by decide) (line_len (w := "even") (xs := s0) (by decide) (by omega) hs.bd)).imp ?_
      rintro w' _ rfl
      rw [if_neg (by decide), if_pos rfl]
      refine (q_many_read_e (ss := s0 :: ss0) (by rw [he]; exact List.drop_left) h100 (by omega) h1).imp ?_
      rintro r _ rfl
      rfl
  | sets rs =>
    obtain ⟨h1, h2, h3⟩ := ok_sets h
    cases rs with
    | nil => exact absurd rfl h2
    | cons r0 rs0 =>
      obtain ⟨w, hw, hq⟩ := word_rowL (h1 r0 (by simp))
      rw [at_A (show ls = A ++ rowL r0 :: rs0.map rowL from he), op_some]
      refine hq.imp ?_
      rintro w' _ rfl
      have hw2 : w' ∉ [Str.ofString "apart", Str.ofString "counts", Str.ofString "unlike"] ∧ w' ≠ Str.ofString "even" := by rcases hw with rfl | rfl <;> decide
      rw [if_neg hw2.1, if_neg hw2.2]
      refine (q_many_read_s (ss := r0 :: rs0) (by rw [he]; exact List.drop_left) h100 (by omega) h1).imp ?_
      rintro r _ rfl
      rfl
/-- a lone bar's first line does not begin with "link" -/
theorem first_word {n : Nat} {b : Br} (h : b.Ok n) (hl : b.lone = true) : ∃ (l : Str) (rest : List Str) (w : Str), b.lns = l :: rest ∧ w ≠ Str.ofString "link" ∧ RsP (m_word_of l) fun s _ => s = w := by
  cases b with
  | link f b => cases hl
  | apart ns =>
    obtain ⟨h1, h2⟩ := ok_apart h
    exact ⟨_, _, _, rfl, by decide, q_word_of (w := "apart") (by decide) (line_len (w := "apart") (xs := ns) (by decide) (by have := h1.len; omega) h1.bd)⟩
  | num w k =>
    obtain ⟨h1, h2, h3⟩ := ok_num h
    have hw2 : 32 ∉ tl w ∧ w.length ≤ 6 ∧ w ≠ Str.ofString "link" := by rcases h1 with rfl | rfl <;> decide
    exact ⟨_, _, _, rfl, hw2.2.2, q_word_of (w := w) hw2.1 (line_len (w := w) (xs := [k]) hw2.2.1 (by simp) (by simpa using h3))⟩
  | evens ss =>
    obtain ⟨h1, h2, h3⟩ := ok_evens h
    cases ss with
    | nil => exact absurd rfl h2
    | cons s0 ss0 =>
      have hs := (h1 s0 (by simp)).1
      exact ⟨_, _, _, rfl, by decide, q_word_of (w := "even") (by decide) (line_len (w := "even") (xs := s0) (by decide) (by have := hs.len; omega) hs.bd)⟩
  | sets rs =>
    obtain ⟨h1, h2, h3⟩ := ok_sets h
    cases rs with
    | nil => exact absurd rfl h2
    | cons r0 rs0 =>
      obtain ⟨w, hw, hq⟩ := word_rowL (h1 r0 (by simp))
      exact ⟨_, _, w, rfl, by rcases hw with rfl | rfl <;> decide, hq⟩
def lkT (f : List Int) (t : Th) : Th := .tup [.str "link", fI f, t]
theorem q_read_bar {n : Nat} {b : Br} (h : b.Ok n) (hn : n ≤ 5) : RsP (m_read_bar (txt b.lns)) fun r _ => r = b.th := by
  have hlen := lns_len h
  unfold m_read_bar M_read_bar
  walk_at "ml"
  refine (q_lines_of hlen.2 (lns_free h) (by omega)).imp ?_
  rintro ls _ rfl
  refine cutP (fun e => ∃ (fs : List (List Int)) (b' : Br) (n' : Nat), e = (some (txt b.lns), some b.lns, some fs, none, none, ()) ∧ b'.Ok n' ∧ b'.lone = true ∧ fs.map (line "link") ++ b'.lns = b.lns ∧ fs.foldr lkT b'.th = b.th ∧ fs.length ≤ 5) ?_ ?_
  · rw [sp_kill]
    refine whileP (fun m e => ∃ (fs : List (List Int)) (b' : Br) (n' : Nat), e = (some (txt b.lns), some b.lns, some fs, none, none, ()) ∧ b'.Ok n' ∧ b'.deep = m ∧ n' + fs.length ≤ n ∧ fs.map (line "link") ++ b'.lns = b.lns ∧ fs.foldr lkT b'.th = b.th) ?_ 1000000000 b.deep _ (Nat.lt_of_le_of_lt (deep_le h) (by omega)) ⟨[], b, n, rfl, h, rfl, by simp, rfl, rfl⟩
    rintro m e ⟨fs, b', n', rfl, h1, h2, h3, h4, h5⟩
    have hne := List.length_pos_iff.mpr (lns_len h1).2
    have hl4 := congrArg List.length h4
    rw [List.length_append, List.length_map] at hl4
    walk_at "ml"
    rw [if_pos (by omega)]
    by_cases hlo : b'.lone = true
    · obtain ⟨l, rest, w, e1, hw, hq⟩ := first_word h1 hlo
      have hat : gIx b.lns (fs.length : Int) = some l := by
        have := at_A (ls := b.lns) (A := fs.map (line "link")) (x := l) (B := rest) (by rw [← h4, e1])
        rwa [List.length_map] at this
      rw [hat, op_some]
      refine hq.imp ?_
      rintro w' _ rfl
      rw [if_neg (by simpa using hw)]
      exact ⟨fs, b', n', rfl, h1, hlo, h4, h5, by omega⟩
    · cases b' with
      | apart ns => exact absurd rfl hlo
      | num w k => exact absurd rfl hlo
      | evens ss => exact absurd rfl hlo
      | sets rs => exact absurd rfl hlo
      | link f b1 =>
        cases n' with
        | zero => exact h1.elim
        | succ n1 =>
          obtain ⟨⟨f1, f2⟩, f3⟩ := h1
          have hat : gIx b.lns (fs.length : Int) = some (line "link" f) := by
            have := at_A (ls := b.lns) (A := fs.map (line "link")) (x := line "link" f) (B := b1.lns) (by rw [← h4]; rfl)
            rwa [List.length_map] at this
          have hL := line_len (w := "link") (xs := f) (by decide) (by have := f1.len; omega) f1.bd
          rw [hat, op_some]
          refine (q_word_of (w := "link") (by decide) hL).imp ?_
          rintro w' _ rfl
          rw [if_pos (by simp)]
          refine ⟨b1.deep, by rw [← h2]; rfl, ?_⟩
          rw [op_some]
          refine ⟨split_ok hL, ?_⟩
          rw [split_line (by decide), cut_1]
          refine (q_face_in f1.up f1.len f1.bd).imp ?_
          rintro r _ rfl
          refine ifB (e' := (some (txt b.lns), some b.lns, some fs, some (some f), none, ())) False ?_ (fun z => z.elim) fun _ => ?_
          · walk_at "ml"
            cases f with
            | nil => exact absurd rfl f2
            | cons x xs =>
              simp only [Bool.not_true]
              rw [if_neg (by decide)]
              exact ⟨fun z => by omega, False.elim⟩
          · walk_at "ml"
            refine ⟨by omega, fs ++ [f], b1, n1, rfl, f3, rfl, by rw [List.length_append, List.length_singleton]; omega, ?_, ?_⟩
            · rw [← h4, List.map_append, List.append_assoc]
              rfl
            · rw [← h5, List.foldr_append]
              rfl
  · rintro e ⟨fs, b', n', rfl, h1, h2, h3, h4, h5⟩
    walk_at "ml"
    have hi := q_inner_read (ls := b.lns) (A := fs.map (line "link")) h1 h2 h3.symm (by omega)
    rw [List.length_map] at hi
    refine hi.imp ?_
    rintro r _ rfl
    refine cutP (fun e => e = (some (txt b.lns), some b.lns, some fs, none, some b.th, ())) ?_ ?_
    · rw [sp_kill]
      walk_at "ml"
      refine loopP (fun i e => e = (some (txt b.lns), some b.lns, some fs, none, some ((fs.reverse.take i).foldl (fun t f => lkT f t) b'.th), ())) (by simp) ?_ ?_
      · rintro i f e hf rfl
        rw [sp_kill]
        walk_at "ml"
        rw [List.take_succ, hf, List.foldl_append]
        rfl
      · rintro e rfl
        rw [List.take_length, List.foldl_reverse, h4]
        rfl
    · rintro e rfl
      walk_at "ml"
open PySem PySem.Spec PyProof.Rows L2 TL PySem.NumText
open Br
theorem okM {n m d e : Nat} {t : Th} (h : OkT n d t) (hn : n ≤ m) (hd : d ≤ e) : OkT m e t := ⟨h.sh, Nat.le_trans h.ln hn, Nat.le_trans h.dp hd⟩
theorem okT_tup3 {a b c d : Nat} {x y z : Th} (hx : OkT a d x) (hy : OkT b d y) (hz : OkT c d z) : OkT (a + b + c + 20) (d + 1) (.tup [x, y, z]) := by
  have h1 := hx.sh
  have h2 := hy.sh
  have h3 := hz.sh
  have l1 : (PyData.shown x.enc).length ≤ a := hx.ln
  have l2 : (PyData.shown y.enc).length ≤ b := hy.ln
  have l3 : (PyData.shown z.enc).length ≤ c := hz.ln
  have d1 := hx.dp
  have d2 := hy.dp
  have d3 := hz.dp
  refine ⟨?_, ?_, ?_⟩ <;> unfold Th.enc
  · simp [encAll, PyData.showable, PyData.showableAll, h1, h2, h3]
  · have := tupleText_le (PyData.shownAll (encAll [x, y, z]))
    show (tupleText (PyData.shownAll (encAll [x, y, z]))).length ≤ _
    have e : piled (PyData.shownAll (encAll [x, y, z])) = piled [PyData.shown x.enc, PyData.shown y.enc, PyData.shown z.enc] := rfl
    have e0 : piled ([] : List Str) = 0 := rfl
    rw [e, piled_cons, piled_cons, piled_cons, e0] at this
    omega
  · simp only [encAll, PyData.depth, PyData.depthAll]
    omega
theorem nat80 {x : Int} (h : Bd x) : x.natAbs < 10 ^ 80 := by
  unfold Bd at h
  have : x.natAbs < 1000000000000000000000000000000 := by omega
  exact Nat.lt_trans this (by decide)
theorem ok_lI {ns : List Int} (h : Ns ns) : OkT 3324 1 (lI ns) := okT_lst (m := 81) (k := 40) (okT_ints fun x hx => nat80 (h.bd x hx)) (by rw [List.length_map]; exact h.len)
theorem ok_ns {ns : List Int} (h : Ns ns) : OkT 3324 1 (fI ns) := okT_tup (m := 81) (k := 40) (okT_ints fun x hx => nat80 (h.bd x hx)) (by rw [List.length_map]; exact h.len)
theorem ok_fc {ns : List Int} (h : Fc ns) : OkT 502 1 (fI ns) := okT_tup (m := 81) (k := 6) (okT_ints fun x hx => nat80 (h.bd x hx)) (by rw [List.length_map]; exact h.len)
theorem ok_two {m d : Nat} {x y : Th} (h1 : OkT m d x) (h2 : OkT m d y) : OkT ((m + 2) * 2 + 4) (d + 1) (.tup [x, y]) := okT_tup (k := 2) (fun t ht => by
  rcases List.mem_cons.mp ht with rfl | ht
  · exact h1
  · rw [List.mem_singleton.mp ht]; exact h2) (by simp)
theorem ok_cut {c : Cut} (h : CutOk c) : OkT 1012 2 (cutT c) := by
  cases c with
  | none => exact okM okT_non (by decide) (by decide)
  | some p =>
    obtain ⟨k, f⟩ := p
    exact ok_two (m := 502) (d := 1) (okM (okT_int (nat80 h.1.2)) (by decide) (by decide)) (ok_fc h.2)
theorem ok_row {r : List Int × Cut} (h : RowOk r) : OkT 6656 3 (rowT (rowP r)) := ok_two (m := 3324) (d := 2) (okM (ok_ns h.1) (by decide) (by decide)) (okM (ok_cut h.2) (by decide) (by decide))
theorem ok_bar {n : Nat} : ∀ {b : Br}, b.Ok n → OkT (266340 + 700 * n) (5 + n) b.th
  | .apart ns, h => by
    obtain ⟨h1, h2⟩ := ok_apart h
    exact okM (ok_two (m := 3324) (d := 1) (okM (okT_str (n := 100) (by decide +kernel)) (by decide) (by decide)) (ok_lI h1)) (by omega) (by omega)
  | .num w k, h => by
    obtain ⟨h1, h2, h3⟩ := ok_num h
    refine okM (ok_two (m := 100) (d := 0) (okM (okT_str (n := 100) ?_) (by decide) (by decide)) (okM (okT_int (nat80 h3)) (by decide) (by decide))) (by omega) (by omega)
    rcases h1 with rfl | rfl <;> decide +kernel
  | .evens ss, h => by
    obtain ⟨h1, h2, h3⟩ := ok_evens h
    refine okM (ok_two (m := 66524) (d := 2) (okM (okT_str (n := 100) (by decide +kernel)) (by decide) (by decide)) (okT_lst (m := 3324) (k := 20) (fun t ht => ?_) (by rw [List.length_map]; exact h3))) (by omega) (by omega)
    obtain ⟨s, hs, rfl⟩ := List.mem_map.mp ht
    exact ok_lI (h1 s hs).1
  | .sets rs, h => by
    obtain ⟨h1, h2, h3⟩ := ok_sets h
    refine okM (ok_two (m := 133164) (d := 4) (okM (okT_str (n := 100) (by decide +kernel)) (by decide) (by decide)) (okT_lst (m := 6656) (k := 20) (fun t ht => ?_) (by rw [List.length_map, List.length_map]; exact h3))) (by omega) (by omega)
    obtain ⟨p, hp, rfl⟩ := List.mem_map.mp ht
    obtain ⟨r, hr, rfl⟩ := List.mem_map.mp hp
    exact ok_row (h1 r hr)
  | .link f b, h => by
    cases n with
    | zero => exact h.elim
    | succ n =>
      have := ok_bar (n := n) (b := b) h.2
      exact okM (okT_tup3 (d := 5 + n) (okM (okT_str (n := 100) (by decide +kernel)) (Nat.le_refl _) (by omega)) (okM (ok_fc h.1.1) (Nat.le_refl _) (by omega)) this) (by omega) (by omega)
/-- the inner bar's thing is one that may be changed, or has no list -/
theorem spl_bar {n : Nat} {b : Br} (h : b.Ok n) (hl : b.lone = true) : (∃ w k, b = .num w k) ∨ splN b.th = true := by
  cases b with
  | link f b => cases hl
  | num w k => exact .inl ⟨w, k, rfl⟩
  | apart ns =>
    obtain ⟨h1, h2⟩ := ok_apart h
    right
    cases ns with
    | nil => exact absurd rfl h2
    | cons x xs =>
      have := h1.len
      show (decide ((Th.int x :: xs.map Th.int).length < 1000000) && (decide ((Str.ofString "apart") ≠ Str.ofString "evens") || _)) = true
      rw [decide_eq_true (by rw [List.length_cons, List.length_map]; rw [List.length_cons] at this; omega), decide_eq_true (by decide)]
      rfl
  | evens ss =>
    obtain ⟨h1, h2, h3⟩ := ok_evens h
    right
    cases ss with
    | nil => exact absurd rfl h2
    | cons s0 ss0 =>
      have := (h1 s0 (by simp)).1.len
      show (decide ((lI s0 :: ss0.map lI).length < 1000000) && (_ || decide ((s0.map Th.int).length < 1000000))) = true
      rw [decide_eq_true (by rw [List.length_cons, List.length_map]; rw [List.length_cons] at h3; omega), decide_eq_true (show (s0.map Th.int).length < 1000000 by rw [List.length_map]; omega), Bool.or_true]
      rfl
  | sets rs =>
    obtain ⟨h1, h2, h3⟩ := ok_sets h
    right
    cases rs with
    | nil => exact absurd rfl h2
    | cons r0 rs0 =>
      show (decide ((rowT (rowP r0) :: (rs0.map rowP).map rowT).length < 1000000) && (decide ((Str.ofString "sets") ≠ Str.ofString "evens") || _)) = true
      rw [decide_eq_true (by rw [List.length_cons, List.length_map, List.length_map]; rw [List.length_cons] at h3; omega), decide_eq_true (by decide)]
      rfl
theorem q_lright {n : Nat} {b : Br} (h : b.Ok n) (hn : n ≤ 5) : RsP (m_lright b.th) fun r _ => r = true := by
  have hok := ok_bar h
  have hlen := (lns_len h).1
  have hs := sum_le_of (m := 1600) (ys := b.lns) fun l hl => (lns_free h l hl).2
  unfold m_lright M_lright
  walk_at "ml"
  refine op_reprT hok (by omega) (by omega) ?_
  refine (q_lbar_lines h (by omega) hn).imp ?_
  rintro a _ rfl
  refine ⟨by rw [show (Str.ofString "\n").length = 1 by decide]; omega, ?_⟩
  refine (q_show_bar h hn).imp ?_
  rintro c _ rfl
  refine ifB (e' := (some b.th, some b.th.enc.shown, some (txt b.lns), some (txt b.lns), none, ())) False ?_ (fun z => z.elim) fun _ => ?_
  · walk_at "ml"
    refine iteI (fun z => nomatch z) fun _ => iteI (fun z => ?_) fun _ => op_reprT hok (by omega) (by omega) ⟨by simp, rfl⟩
    have : txt b.lns = Txt.join (Str.ofString "\n") b.lns := rfl
    simp [this] at z
  · walk_at "ml"
    refine sp_scope ?_
    unfold ks0_lright
    walk_at "ml"
    refine (q_read_bar h hn).imp ?_
    rintro r _ rfl
    refine ifB (e' := (some b.th, some b.th.enc.shown, some (txt b.lns), some (txt b.lns), some b.th, ())) False ?_ (fun z => z.elim) fun _ => ?_
    · walk_at "ml"
      refine op_reprT hok (by omega) (by omega) ?_
      rw [if_neg (by simp)]
      refine (q_show_bar h hn).imp ?_
      rintro c _ rfl
      simp
    · walk_at "ml"
      refine cutP (fun e => ∃ (b' : Br) (n' : Nat), e = (some b.th, some b.th.enc.shown, some (txt b.lns), some (txt b.lns), some b'.th, ()) ∧ b'.Ok n' ∧ b'.lone = true) ?_ ?_
      · refine whileP (fun m e => ∃ (b' : Br) (n' : Nat), e = (some b.th, some b.th.enc.shown, some (txt b.lns), some (txt b.lns), some b'.th, ()) ∧ b'.Ok n' ∧ b'.deep = m) ?_ 1000000000 b.deep _ (Nat.lt_of_le_of_lt (deep_le h) (by omega)) ⟨b, n, rfl, h, rfl⟩
        rintro m e ⟨b', n', rfl, h1, h2⟩
        walk_at "ml"
        cases b' with
        | link f b1 =>
          cases n' with
          | zero => exact h1.elim
          | succ n1 =>
            simp only [Br.th, asT, asS, op_some, gix0]
            rw [if_pos trivial]
            refine ⟨b1.deep, by rw [← h2]; rfl, ?_⟩
            rw [rp_small]
            walk_at "ml"
            simp only [asT, op_some, gix2]
            exact ⟨b1, n1, rfl, h1.2, rfl⟩
        | apart ns =>
          simp only [Br.th, asT, asS, op_some, gix0]
          rw [if_neg (by decide)]
          exact ⟨.apart ns, n', rfl, h1, rfl⟩
        | num w k =>
          simp only [Br.th, asT, asS, op_some, gix0]
          rw [if_neg (word_num h1)]
          exact ⟨.num w k, n', rfl, h1, rfl⟩
        | evens ss =>
          simp only [Br.th, asT, asS, op_some, gix0]
          rw [if_neg (by decide)]
          exact ⟨.evens ss, n', rfl, h1, rfl⟩
        | sets rs =>
          simp only [Br.th, asT, asS, op_some, gix0]
          rw [if_neg (by decide)]
          exact ⟨.sets rs, n', rfl, h1, rfl⟩
      · rintro e ⟨b', n', rfl, h1, h2⟩
        refine cutP (fun e => ∃ o, e = (some b.th, some b.th.enc.shown, some (txt b.lns), some (txt b.lns), o, ())) ?_ ?_
        · walk_at "ml"
          obtain ⟨w, x, e1⟩ : ∃ w x, b'.th = .tup [.str w, x] := by
            cases b' with
            | link f b1 => cases h2
            | apart ns => exact ⟨_, _, rfl⟩
            | num w k => exact ⟨_, _, rfl⟩
            | evens ss => exact ⟨_, _, rfl⟩
            | sets rs => exact ⟨_, _, rfl⟩
          rcases spl_bar h1 h2 with ⟨w', k, rfl⟩ | hsp
          · simp only [Br.th, asT, op_some, gix1]
            exact iteI (fun z => nomatch z) fun _ => ⟨_, rfl⟩
          · rw [show asT b'.th = some [.str w, x] by rw [e1]; rfl, op_some, gix1, op_some]
            exact iteI (fun _ => sp_splN (t := b'.th) rfl hsp ⟨none, rfl⟩) fun _ => ⟨_, rfl⟩
        · rintro e ⟨o, rfl⟩
          walk_at "ml"
          refine (q_read_bar h hn).imp ?_
          rintro r _ rfl
          refine op_reprT hok (by omega) (by omega) ?_
          simp
open PySem PySem.Spec PyProof.Rows L2 TL PySem.NumText
open Br
theorem nines (k : Nat) : digitsVal (List.replicate k 57) + 1 = 10 ^ k := by
  induction k with
  | zero => rfl
  | succ k ih =>
    rw [List.replicate_succ', digitsVal_snoc, Nat.pow_succ, ← ih]
    omega
theorem tl_rep9 (k : Nat) : tl (repS (Str.ofString "9") k) = List.replicate k 57 := by
  induction k with
  | zero => rfl
  | succ k ih =>
    have : repS (Str.ofString "9") (k + 1) = repS (Str.ofString "9") k ++ Str.ofString "9" := by
      unfold repS
      rw [List.replicate_succ', List.foldl_append]
      rfl
    rw [this, tl_append, ih, List.replicate_succ', show tl (Str.ofString "9") = [57] by decide]
theorem int_rep9 {k : Nat} (h1 : 1 ≤ k) (h2 : k ≤ 30) : ∃ v : Int, PySem.intText? (repS (Str.ofString "9") k) = some v ∧ 9 ≤ v ∧ v < 1000000000000000000000000000000 := by
  have e := tl_rep9 k
  refine ⟨_, intText_digits (x := repS (Str.ofString "9") k) (fun c hc => ?_) (fun h => ?_) ?_, ?_⟩
  · have hc : c ∈ tl (repS (Str.ofString "9") k) := hc
    rw [e] at hc
    rw [(List.mem_replicate.mp hc).2]
    decide
  · have h : tl (repS (Str.ofString "9") k) = [] := h
    rw [e] at h
    have := congrArg List.length h
    simp at this
    omega
  · rw [len_tl, e, List.length_replicate]; omega
  · have h := nines k
    show 9 ≤ ((digitsVal (tl (repS (Str.ofString "9") k)) : Nat) : Int) ∧ ((digitsVal (tl (repS (Str.ofString "9") k)) : Nat) : Int) < _
    rw [e]
    have p1 : 10 ^ 1 ≤ 10 ^ k := Nat.pow_le_pow_right (by decide) h1
    have p2 : 10 ^ k ≤ 10 ^ 30 := Nat.pow_le_pow_right (by decide) h2
    omega
theorem q_lfar {st : List Int × Int × Int} {n : Nat} (h : Pn n st) (hn : n ≤ 80000) : RsP (m_lfar st) fun r st' => (0 ≤ r ∧ Bd r) ∧ Pn (n + 5) st' := by
  unfold m_lfar M_lfar
  walk_at "mp"
  refine (q_ldraw h (by omega) (by decide) (by decide)).imp ?_
  rintro k st1 ⟨⟨j0, j1⟩, h1⟩
  obtain ⟨v, hv, v0, v1⟩ := int_rep9 (k := (1 + k).toNat) (by omega) (by omega)
  refine ⟨⟨⟨by omega, by omega⟩, by decide, by decide⟩, by rw [len_tl, tl_rep9, List.length_replicate]; omega, ?_⟩
  rw [hv, op_some]
  refine (q_ldraw h1 (by omega) (by decide) (by decide)).imp ?_
  rintro a st2 ⟨⟨a0, a1⟩, h2⟩
  refine (q_ldraw h2 (by omega) (by decide) (by decide)).imp ?_
  rintro b st3 ⟨⟨b0, b1⟩, h3⟩
  refine (q_ldraw h3 (by omega) (by decide) (by decide)).imp ?_
  rintro c st4 ⟨⟨c0, c1⟩, h4⟩
  refine (q_ldraw h4 (by omega) (by decide) (by decide)).imp ?_
  rintro d st5 ⟨⟨d0, d1⟩, h5⟩
  refine op_ix d0 (by simp; omega) fun x hx => ?_
  simp only [List.mem_cons, List.not_mem_nil, or_false] at hx
  unfold Bd
  exact ⟨⟨by omega, by omega, by omega⟩, h5⟩
theorem q_lface {st : List Int × Int × Int} {n : Nat} {l : Nat} (h : Pn n st) (hn : n ≤ 80000) (l1 : l ≤ 1) : RsP (m_lface st (l : Int) 6) fun r st' => (Fc r ∧ l ≤ r.length) ∧ Pn (n + 11) st' := by
  unfold m_lface M_lface
  walk_at "mp"
  refine (q_lcorners (k := 9) h (by omega) (by decide) (by decide)).imp ?_
  rintro nms st1 ⟨⟨n1, n2, n3⟩, h1⟩
  refine (q_ldraw h1 (by omega) (by omega) (by omega)).imp ?_
  rintro m st2 ⟨⟨j0, j1⟩, h2⟩
  obtain ⟨m, rfl⟩ := Int.eq_ofNat_of_zero_le j0
  rw [show (l : Int) + (m : Int) = ((l + m : Nat) : Int) by omega]
  refine (q_lpicked (xs := nms) (k := l + m) h2 (by omega) (by omega) (by omega)).imp ?_
  rintro r st3 ⟨⟨l, rest, hp⟩, h3⟩
  have hnd : r.Nodup := (List.nodup_append.mp (hp.nodup_iff.mpr (up_nodup n2))).1
  exact ⟨by omega, ⟨⟨srt_up hnd, fun x hx => n3 x (hp.mem_iff.mp (List.mem_append_left _ ((srt_perm r).mem_iff.mp hx))), by rw [(srt_perm r).length_eq]; omega⟩, by rw [(srt_perm r).length_eq]; omega⟩, h3.mono (by omega)⟩
theorem keys_dput (d : List (Int × Bool)) (k : Int) : keysOf (dput d k true) = if k ∈ keysOf d then keysOf d else keysOf d ++ [k] := by
  unfold dput keysOf
  by_cases h : k ∈ d.map (·.1)
  · rw [if_pos h, if_pos (by obtain ⟨p, hp, e⟩ := List.mem_map.mp h; exact List.any_eq_true.mpr ⟨p, hp, decide_eq_true e⟩), List.map_map]
    refine List.map_congr_left fun p _ => ?_
    show (if p.1 = k then (p.1, true) else p).1 = p.1
    split <;> rfl
  · rw [if_neg h, if_neg (by
      intro z
      obtain ⟨p, hp, e⟩ := List.any_eq_true.mp z
      exact h (List.mem_map.mpr ⟨p, hp, of_decide_eq_true e⟩)), List.map_append]
    rfl
theorem ns_srt {xs : List Int} (hn : xs.Nodup) (hl : xs.length ≤ 40) (h : ∀ x ∈ xs, 0 ≤ x ∧ Bd x) : Ns (srt xs) := ⟨srt_up hn, fun x hx => (h x ((srt_perm xs).mem_iff.mp hx)).2, fun x hx => (h x ((srt_perm xs).mem_iff.mp hx)).1, by rw [(srt_perm xs).length_eq]; exact hl⟩
theorem q_lnumbers {st : List Int × Int × Int} {n : Nat} {l : Nat} (h : Pn n st) (hn : n ≤ 70000) (l1 : l ≤ 1) : RsP (m_lnumbers st (l : Int)) fun r st' => (Ns r ∧ l ≤ r.length) ∧ Pn (n + 50) st' := by
  unfold m_lnumbers M_lnumbers
  walk_at "ml"
  refine (q_ldraw h (by omega) (by decide) (by decide)).imp ?_
  rintro a st1 ⟨_, h1⟩
  refine iteI (fun _ => ?_) fun _ => ?_
  · refine (q_ldraw h1 (by omega) (by decide) (by decide)).imp ?_
    rintro m st2 ⟨⟨m0, m1⟩, h2⟩
    obtain ⟨m, rfl⟩ := Int.eq_ofNat_of_zero_le m0
    rw [show (7 : Int) + (m : Int) = ((7 + m : Nat) : Int) by omega]
    have hr : (rng 0 60).length = 60 := by rw [rng_length]; rfl
    refine (q_lpicked (xs := rng 0 60) (k := 7 + m) h2 (by omega) (by omega) (by omega)).imp ?_
    rintro r st3 ⟨⟨l2, rest, hp⟩, h3⟩
    have hnd : r.Nodup := (List.nodup_append.mp (hp.nodup_iff.mpr (rng_nodup 0 60))).1
    refine ⟨by omega, ⟨ns_srt hnd (by omega) fun x hx => ?_, by rw [(srt_perm r).length_eq]; omega⟩, h3.mono (by omega)⟩
    have := mem_rng.mp (hp.mem_iff.mp (List.mem_append_left _ hx))
    unfold Bd
    omega
  · refine cutP (fun e => ∃ (d : List (Int × Bool)) (st3 : List Int × Int × Int), e = (some st3, some (l : Int), some d, none, ()) ∧ Pn (n + 40) st3 ∧ (keysOf d).Nodup ∧ (keysOf d).length ≤ 10 ∧ l ≤ (keysOf d).length ∧ ∀ x ∈ keysOf d, 0 ≤ x ∧ Bd x) ?_ ?_
    · rw [sp_kill]
      walk_at "ml"
      refine (q_ldraw h1 (by omega) (by decide) (by decide)).imp ?_
      rintro m st2 ⟨⟨m0, m1⟩, h2⟩
      obtain ⟨m, rfl⟩ := Int.eq_ofNat_of_zero_le m0
      refine ⟨by simp [bigI]; omega, ?_⟩
      refine loopR (n := l + m) (by omega) (fun i e => ∃ (d : List (Int × Bool)) (st3 : List Int × Int × Int), e = (some st3, some (l : Int), some d, none, ()) ∧ Pn (n + 2 + 5 * i) st3 ∧ (keysOf d).Nodup ∧ (keysOf d).length ≤ i ∧ min 1 i ≤ (keysOf d).length ∧ ∀ x ∈ keysOf d, 0 ≤ x ∧ Bd x) ⟨[], st2, rfl, h2.mono (by omega), by simp [keysOf], by simp [keysOf], by simp, by simp [keysOf]⟩ ?_ ?_
      · rintro i e hi ⟨d, st3, rfl, h3, d1, d2, d3, d4⟩
        rw [sp_kill]
        walk_at "ml"
        refine (q_lfar h3 (by omega)).imp ?_
        rintro x st4 ⟨⟨x0, x1⟩, h4⟩
        have hdl : d.length = (keysOf d).length := by unfold keysOf; rw [List.length_map]
        refine ⟨by omega, _, _, rfl, h4.mono (by omega), ?_⟩
        rw [keys_dput]
        by_cases hx : x ∈ keysOf d
        · rw [if_pos hx]
          have := List.length_pos_of_mem hx
          exact ⟨d1, by omega, by omega, d4⟩
        · rw [if_neg hx]
          refine ⟨List.nodup_append.mpr ⟨d1, by simp, fun y hy z hz e => ?_⟩, by rw [List.length_append, List.length_singleton]; omega, by rw [List.length_append, List.length_singleton]; omega, fun y hy => ?_⟩
          · rw [List.mem_singleton.mp hz] at e
            exact hx (e ▸ hy)
          · rcases List.mem_append.mp hy with hy | hy
            · exact d4 y hy
            · rw [List.mem_singleton.mp hy]
              exact ⟨x0, x1⟩
      · rintro e ⟨d, st3, rfl, h3, d1, d2, d3, d4⟩
        exact ⟨d, st3, rfl, h3.mono (by omega), d1, by omega, by omega, d4⟩
    · rintro e ⟨d, st3, rfl, h3, d1, d2, d3, d4⟩
      walk_at "ml"
      have hdl : d.length = (keysOf d).length := by unfold keysOf; rw [List.length_map]
      exact ⟨by omega, ⟨ns_srt d1 (by omega) d4, by rw [show (keysOf d).mergeSort leI = srt (keysOf d) from rfl, (srt_perm _).length_eq]; exact d3⟩, h3.mono (by omega)⟩
theorem q_lsets {st : List Int × Int × Int} {n : Nat} (h : Pn n st) (hn : n ≤ 60000) : RsP (m_lsets st) fun r st' => (∃ rs : List (List Int × Cut), r = rs.map rowP ∧ (∀ x ∈ rs, RowOk x) ∧ rs ≠ [] ∧ rs.length ≤ 20) ∧ Pn (n + 500) st' := by
  unfold m_lsets M_lsets
  walk_at "ml"
  refine cutP (fun e => ∃ (rs : List (List Int × Cut)) (st1 : List Int × Int × Int), e = (some st1, some (rs.map rowP), none, none, ()) ∧ Pn (n + 400) st1 ∧ (∀ x ∈ rs, RowOk x) ∧ rs ≠ [] ∧ rs.length ≤ 6) ?_ ?_
  · rw [sp_kill]
    walk_at "ml"
    refine (q_ldraw h (by omega) (by decide) (by decide)).imp ?_
    rintro m st2 ⟨⟨m0, m1⟩, h2⟩
    obtain ⟨m, rfl⟩ := Int.eq_ofNat_of_zero_le m0
    refine ⟨by simp [bigI]; omega, ?_⟩
    refine loopR (n := 1 + m) (by omega) (fun i e => ∃ (rs : List (List Int × Cut)) (st1 : List Int × Int × Int), e = (some st1, some (rs.map rowP), none, none, ()) ∧ Pn (n + 1 + 70 * i) st1 ∧ (∀ x ∈ rs, RowOk x) ∧ rs.length = i) ⟨[], st2, rfl, h2, by simp, rfl⟩ ?_ ?_
    · rintro i e hi ⟨rs, st1, rfl, h1, r1, r2⟩
      rw [sp_kill]
      walk_at "ml"
      refine cutP (fun e => ∃ (c : Cut) (st3 : List Int × Int × Int), e = (some st3, some (rs.map rowP), some (i : Int), some (cutT c), ()) ∧ Pn (n + 1 + 70 * i + 18) st3 ∧ CutOk c) ?_ ?_
      · walk_at "ml"
        refine (q_ldraw h1 (by omega) (by decide) (by decide)).imp ?_
        rintro a st3 ⟨_, h3⟩
        refine iteI (fun _ => ?_) fun _ => ⟨none, st3, rfl, h3.mono (by omega), trivial⟩
        refine (q_lfar h3 (by omega)).imp ?_
        rintro x st4 ⟨⟨x0, x1⟩, h4⟩
        refine (q_lface (l := 0) h4 (by omega) (by decide)).imp ?_
        rintro f st5 ⟨⟨f1, _⟩, h5⟩
        exact ⟨some (x, f), st5, rfl, h5.mono (by omega), ⟨x0, x1⟩, f1⟩
      · rintro e ⟨c, st3, rfl, h3, hc⟩
        walk_at "ml"
        refine (q_lnumbers (l := 0) h3 (by omega) (by decide)).imp ?_
        rintro ns st4 ⟨⟨n1, _⟩, h4⟩
        refine ⟨by rw [List.length_map]; omega, rs ++ [(ns, c)], st4, by rw [List.map_append]; rfl, h4.mono (by omega), fun x hx => ?_, by rw [List.length_append, List.length_singleton]; omega⟩
        rcases List.mem_append.mp hx with hx | hx
        · exact r1 x hx
        · rw [List.mem_singleton.mp hx]
          exact ⟨n1, hc⟩
    · rintro e ⟨rs, st1, rfl, h1, r1, r2⟩
      exact ⟨rs, st1, rfl, h1.mono (by omega), r1, fun z => by rw [z] at r2; simp at r2; omega, by omega⟩
  · rintro e ⟨rs, st1, rfl, h1, r1, r2, r3⟩
    walk_at "ml"
    refine (q_ldraw h1 (by omega) (by decide) (by decide)).imp ?_
    rintro k st2 ⟨⟨k0, k1⟩, h2⟩
    rw [cut_to k0]
    refine ⟨by rw [List.length_map, List.length_take, List.length_map]; omega, ⟨rs ++ rs.take k.toNat, by rw [List.map_append, List.map_take], fun x hx => ?_, by simp [r2], by rw [List.length_append, List.length_take]; omega⟩, h2.mono (by omega)⟩
    rcases List.mem_append.mp hx with hx | hx
    · exact r1 x hx
    · exact r1 x (List.mem_of_mem_take hx)
open PySem PySem.Spec PyProof.Rows L2 TL PySem.NumText
open Br
theorem q_lbar {st : List Int × Int × Int} {n : Nat} {k : Nat} (h : Pn n st) (hn : n ≤ 50000) (hk : k ≤ 5) : RsP (m_lbar st (k : Int)) fun r st' => (∃ b : Br, r = b.th ∧ b.Ok k) ∧ Pn (n + 1100) st' := by
  unfold m_lbar M_lbar
  walk_at "ml"
  refine (q_ldraw h (by omega) (by decide) (by decide)).imp ?_
  rintro a st1 ⟨⟨a0, a1⟩, h1⟩
  refine op_ix a0 a1 fun w hw => ?_
  refine (q_lfar h1 (by omega)).imp ?_
  rintro x st2 ⟨⟨x0, x1⟩, h2⟩
  have a1' : ("apart" : Str) ≠ ("evens" : Str) ∧ ("apart" : Str) ≠ ("sets" : Str) ∧ ("evens" : Str) ≠ ("sets" : Str) := by decide
  refine cutP (fun e => ∃ (t : Th) (st3 : List Int × Int × Int), e = (some st3, some (k : Int), some w, some t, none, ()) ∧ Pn (n + 100) st3 ∧ (w = ("apart" : Str) → ∃ b : Br, t = b.th ∧ b.Ok 0) ∧ (w ≠ ("apart" : Str) → t = .tup [.str w, .int x])) ?_ ?_
  · walk_at "ml"
    refine iteI (fun z => ?_) fun z => ⟨_, st2, rfl, h2.mono (by omega), fun y => absurd y z, fun _ => rfl⟩
    refine (q_lnumbers (l := 1) h2 (by omega) (by decide)).imp ?_
    rintro ns st3 ⟨⟨g1, g2⟩, h3⟩
    exact ⟨_, st3, rfl, h3.mono (by omega), fun _ => ⟨.apart ns, by rw [z]; rfl, g1, fun y => by rw [y] at g2; simp at g2⟩, fun y => absurd z y⟩
  rintro e ⟨t, st3, rfl, h3, t1, t2⟩
  refine cutP (fun e => ∃ (t : Th) (st3 : List Int × Int × Int), e = (some st3, some (k : Int), some w, some t, none, ()) ∧ Pn (n + 400) st3 ∧ ((w = ("apart" : Str) ∨ w = ("evens" : Str)) → ∃ b : Br, t = b.th ∧ b.Ok 0) ∧ (¬ (w = ("apart" : Str) ∨ w = ("evens" : Str)) → t = .tup [.str w, .int x])) ?_ ?_
  · walk_at "ml"
    refine iteI (fun z => ?_) fun z => ⟨_, st3, rfl, h3.mono (by omega), fun y => t1 (y.resolve_right z), fun y => t2 fun v => y (.inl v)⟩
    refine (q_ldraw h3 (by omega) (by decide) (by decide)).imp ?_
    rintro m st4 ⟨⟨m0, m1⟩, h4⟩
    obtain ⟨m, rfl⟩ := Int.eq_ofNat_of_zero_le m0
    refine ⟨by simp [bigI]; omega, by rw [rng_length]; omega, ?_⟩
    refine lcI (fun i (acc : List Th) e => ∃ (ss : List (List Int)) (st5 : List Int × Int × Int), acc = ss.map lI ∧ e = (some st5, some (k : Int), some w, some t, none, ()) ∧ Pn (n + 101 + 50 * i) st5 ∧ (∀ s ∈ ss, Ns s ∧ s ≠ []) ∧ ss.length = i) ⟨[], st4, rfl, rfl, h4, by simp, rfl⟩ ?_ ?_
    · rintro i y acc e hy ⟨ss, st5, rfl, rfl, h5, s1, s2⟩
      have hi := (List.getElem?_eq_some_iff.mp hy).1
      rw [rng_length] at hi
      walk_at "ml"
      refine (q_lnumbers (l := 1) h5 (by omega) (by decide)).imp ?_
      rintro ns st6 ⟨⟨g1, g2⟩, h6⟩
      refine ⟨ss ++ [ns], st6, by rw [List.map_append]; rfl, rfl, h6.mono (by omega), fun s hs => ?_, by rw [List.length_append, List.length_singleton]; omega⟩
      rcases List.mem_append.mp hs with hs | hs
      · exact s1 s hs
      · rw [List.mem_singleton.mp hs]
        exact ⟨g1, fun y => by rw [y] at g2; simp at g2⟩
    · rintro acc e ⟨ss, st5, rfl, rfl, h5, s1, s2⟩
      rw [rng_length] at s2 h5
      walk_at "ml"
      refine ⟨_, st5, rfl, h5.mono (by omega), fun _ => ⟨.evens ss, by rw [z]; rfl, s1, fun y => by rw [y] at s2; simp at s2; omega, by omega⟩, fun y => absurd (.inr z) y⟩
  rintro e ⟨t, st3, rfl, h3, t1, t2⟩
  refine cutP (fun e => ∃ (b : Br) (st3 : List Int × Int × Int), e = (some st3, some (k : Int), some w, some b.th, none, ()) ∧ Pn (n + 1000) st3 ∧ b.Ok 0) ?_ ?_
  · walk_at "ml"
    refine iteI (fun z => ?_) fun z => ?_
    · refine (q_lsets h3 (by omega)).imp ?_
      rintro r st4 ⟨⟨rs, rfl, r1, r2, r3⟩, h4⟩
      exact ⟨.sets rs, st4, by rw [z]; rfl, h4.mono (by omega), r1, r2, r3⟩
    · by_cases y : w = ("apart" : Str) ∨ w = ("evens" : Str)
      · obtain ⟨b, rfl, hb⟩ := t1 y
        exact ⟨b, st3, rfl, h3.mono (by omega), hb⟩
      · rw [t2 y]
        refine ⟨.num w x, st3, rfl, h3.mono (by omega), ?_, x0, x1⟩
        simp only [List.mem_cons, List.not_mem_nil, or_false] at hw
        rcases hw with v | v | v | v | v | v
        · exact absurd (.inl v) y
        · exact .inl v
        · exact .inr v
        · exact absurd (.inr v) y
        · exact absurd v z
        · exact absurd v z
  rintro e ⟨b, st3, rfl, h3, hb⟩
  refine cutP (fun e => ∃ (b : Br) (st3 : List Int × Int × Int), e = (some st3, some (k : Int), some w, some b.th, none, ()) ∧ Pn (n + 1100) st3 ∧ b.Ok k) ?_ ?_
  · rw [sp_kill]
    walk_at "ml"
    refine ⟨by simp [bigI]; omega, ?_⟩
    refine loopR (n := k) rfl (fun i e => ∃ (b : Br) (st3 : List Int × Int × Int), e = (some st3, some (k : Int), some w, some b.th, none, ()) ∧ Pn (n + 1000 + 11 * i) st3 ∧ b.Ok i) ⟨b, st3, rfl, h3, hb⟩ ?_ ?_
    · rintro i e hi ⟨b, st4, rfl, h4, hb⟩
      rw [sp_kill]
      walk_at "ml"
      refine (q_lface (l := 1) h4 (by omega) (by decide)).imp ?_
      rintro f st5 ⟨⟨f1, f2⟩, h5⟩
      exact ⟨.link f b, st5, rfl, h5.mono (by omega), ⟨f1, fun y => by rw [y] at f2; simp at f2⟩, hb⟩
    · rintro e ⟨b, st4, rfl, h4, hb⟩
      exact ⟨b, st4, rfl, h4.mono (by omega), hb⟩
  rintro e ⟨b, st4, rfl, h4, hb⟩
  walk_at "ml"
  exact ⟨⟨b, rfl, hb⟩, h4⟩
open PySem PySem.Spec PyProof.Rows L2 TL PySem.NumText
open Br
/-- the corners that stand apart from one another: few steps, one width -/
def Tg (k : Nat) (r : List Int) : Prop := ∃ (neg : Bool) (step a d : Int), (step = 1 ∨ step = 3 ∨ step = 1000000007 ∨ step = 10000000000000000000000000000) ∧ (0 ≤ d ∧ d ≤ k) ∧ (a = 0 ∨ a = 1 ∨ a = 0 - step * d ∨ a = 999999999999999999999999999999 - step * ((k : Int) - 1)) ∧ ∀ c ∈ r, ∃ i : Int, (0 ≤ i ∧ i < (k : Int)) ∧ c = if neg = true then 0 - (a + step * i) else a + step * i
theorem Tg.no {k : Nat} {r : List Int} (h : Tg k r) (hk : k ≤ 8) : (∀ c ∈ r, c ≠ 77 ∧ c ≠ 100000000000000000000000000004 ∧ c ≠ 7 - 100000000000000000000000000000) ∧ ¬ ((1 - 1000000000000000000000000000000 : Int) ∈ r ∧ (1000000000000000000000000000000 - 1 : Int) ∈ r) := by
  obtain ⟨neg, step, a, d, hs, hd, ha, hc⟩ := h
  constructor
  · intro c hcr
    obtain ⟨i, hi, e⟩ := hc c hcr
    cases neg with
    | true =>
      rw [if_pos rfl] at e
      rcases hs with rfl | rfl | rfl | rfl <;> rcases ha with rfl | rfl | rfl | rfl <;> refine ⟨?_, ?_, ?_⟩ <;> omega
    | false =>
      rw [if_neg (by decide)] at e
      rcases hs with rfl | rfl | rfl | rfl <;> rcases ha with rfl | rfl | rfl | rfl <;> refine ⟨?_, ?_, ?_⟩ <;> omega
  · rintro ⟨h1, h2⟩
    obtain ⟨i, hi, e⟩ := hc _ h1
    obtain ⟨j, hj, e'⟩ := hc _ h2
    cases neg with
    | true =>
      rw [if_pos rfl] at e e'
      rcases hs with rfl | rfl | rfl | rfl <;> omega
    | false =>
      rw [if_neg (by decide)] at e e'
      rcases hs with rfl | rfl | rfl | rfl <;> omega
open PySem PySem.Spec PyProof.Rows L2 TL PySem.NumText
open Br
theorem q_lcorners_t {st : List Int × Int × Int} {k n : Nat} (h : Pn n st) (hn : n + 3 ≤ 100000) (k0 : 1 ≤ k) (hk : k ≤ 99) :
    RsP (m_lcorners st k) fun r st' => ((r.length = k ∧ Up r ∧ ∀ c ∈ r, Bd c) ∧ Tg k r) ∧ Pn (n + 4) st' := by
  unfold m_lcorners M_lcorners
  walk_at "ml"
  refine (q_ldraw h (by omega) (by decide) (by decide)).imp ?_
  rintro j st1 ⟨⟨j0, j1⟩, h1⟩
  refine op_ix j0 (by simp; omega) fun step hs => ?_
  have hs' : step = 1 ∨ step = 3 ∨ step = 1000000007 ∨ step = 10000000000000000000000000000 := by simp at hs; omega
  have hs0 : 0 < step := by omega
  refine (q_ldraw h1 (by omega) (by omega) (by omega)).imp ?_
  rintro d st2 ⟨⟨d0, d1⟩, h2⟩
  refine ⟨.inr ⟨by omega, by omega⟩, .inr ⟨by omega, by omega⟩, ?_⟩
  refine (q_ldraw h2 (by omega) (by decide) (by decide)).imp ?_
  rintro j2 st3 ⟨⟨j20, j21⟩, h3⟩
  refine op_ix j20 (by simp; omega) fun a ha => ?_
  have hB : ∀ i : Int, 0 ≤ i → i < k → Bd (a + step * i) := fun i i0 i1 => by
    simp only [List.mem_cons, List.not_mem_nil, or_false] at ha
    unfold Bd
    rcases hs' with rfl | rfl | rfl | rfl <;> rcases ha with rfl | rfl | rfl | rfl <;> omega
  refine ⟨by simp [bigI]; omega, by rw [rng_length]; omega, lcM (fun i => a + step * i) (fun i hi => ?_) ?_⟩
  · have hi := mem_rng.mp hi
    walk_at "ml"
    exact .inr ⟨by omega, by omega⟩
  · walk_at "ml"
    refine (q_ldraw h3 (by omega) (by decide) (by decide)).imp ?_
    rintro j3 st4 ⟨⟨j30, j31⟩, h4⟩
    have hl : ((rng 0 (k : Int)).map fun i => a + step * i).length = k := by rw [List.length_map, rng_length]; omega
    have hu := lin_up (a := a) hs0 (k : Int)
    have hb : ∀ c ∈ (rng 0 (k : Int)).map fun i => a + step * i, Bd c := fun c hc => by
      obtain ⟨i, hi, rfl⟩ := List.mem_map.mp hc
      have hi := mem_rng.mp hi
      exact hB i hi.1 hi.2
    have ht : ∀ c ∈ (rng 0 (k : Int)).map (fun i => a + step * i), ∃ i, (0 ≤ i ∧ i < (k : Int)) ∧ c = a + step * i := fun c hc => by
      obtain ⟨i, hi, rfl⟩ := List.mem_map.mp hc
      exact ⟨i, mem_rng.mp hi, rfl⟩
    have hd : 0 ≤ d ∧ d ≤ k := ⟨by omega, by omega⟩
    have ha' : a = 0 ∨ a = 1 ∨ a = 0 - step * d ∨ a = 999999999999999999999999999999 - step * ((k : Int) - 1) := by
      simp only [List.mem_cons, List.not_mem_nil, or_false] at ha
      rcases ha with h | h | h | h
      · exact .inl h
      · exact .inr (.inl h)
      · exact .inr (.inr (.inl h))
      · exact .inr (.inr (.inr h))
    refine iteI (fun _ => ⟨⟨⟨hl, hu, hb⟩, false, step, a, d, hs', hd, ha', fun c hc => by
      obtain ⟨i, hi, e⟩ := ht c hc
      exact ⟨i, hi, by rw [if_neg (by decide)]; exact e⟩⟩, h4⟩) fun _ => ?_
    refine ⟨by rw [List.length_reverse, hl]; omega, lcM (fun c => 0 - c) (fun c hc => ?_) ?_⟩
    · walk_at "ml"
    · walk_at "ml"
      refine ⟨⟨⟨by rw [List.length_map, List.length_reverse]; exact hl, ?_, fun c hc => ?_⟩, true, step, a, d, hs', hd, ha', fun c hc => ?_⟩, h4⟩
      · refine List.pairwise_map.mpr (List.pairwise_reverse.mpr (hu.imp fun h => by omega))
      · obtain ⟨d', hd', rfl⟩ := List.mem_map.mp hc
        have := hb d' (List.mem_reverse.mp hd')
        unfold Bd at this ⊢
        omega
      · obtain ⟨d', hd', rfl⟩ := List.mem_map.mp hc
        obtain ⟨i, hi, e⟩ := ht d' (List.mem_reverse.mp hd')
        exact ⟨i, hi, by rw [if_pos rfl, e]⟩
/-- two pieces of so many corners, rising -/
structure Tw (m : Nat) (sh : List (List Int)) : Prop where
  len : sh.length = 2
  pc : ∀ p ∈ sh, p.length = m ∧ Up p ∧ ∀ c ∈ p, Bd c
  tg : ∃ r, Tg (2 * m) r ∧ ∀ p ∈ sh, ∀ c ∈ p, c ∈ r
theorem q_ltwo {st : List Int × Int × Int} {n m s : Nat} (h : Pn n st) (hn : n ≤ 60000) (m1 : 1 ≤ m) (m4 : m ≤ 4) (hs : s ≤ m) : RsP (m_ltwo st (m : Int) (s : Int)) fun r st' => Tw m r ∧ Pn (n + 10) st' := by
  unfold m_ltwo M_ltwo
  walk_at "ml"
  rw [show (2 : Int) * (m : Int) = ((2 * m : Nat) : Int) by omega]
  refine (q_lcorners_t (k := 2 * m) h (by omega) (by omega) (by omega)).imp ?_
  rintro nms st1 ⟨⟨⟨n1, n2, n3⟩, n4⟩, h1⟩
  rw [show ((2 * m : Nat) : Int) - (s : Int) = ((2 * m - s : Nat) : Int) by omega, cut_to (by omega), cut_to (by omega), cut_two (by omega) (by omega), Int.toNat_natCast, Int.toNat_natCast]
  have s2 : (nms.take s ++ (nms.drop m).take (2 * m - s - m)).Sublist nms := by
    have : (nms.take s ++ (nms.drop m).take (2 * m - s - m)).Sublist (nms.take m ++ nms.drop m) := (List.take_sublist_take_left hs).append (List.take_sublist _ _)
    rwa [List.take_append_drop] at this
  have l2 : (nms.take s ++ (nms.drop m).take (2 * m - s - m)).length = m := by rw [List.length_append, List.length_take, List.length_take, List.length_drop]; omega
  have s1 : (nms.take m).Sublist nms := List.take_sublist _ _
  have l1 : (nms.take m).length = m := by rw [List.length_take]; omega
  refine ⟨by rw [List.length_take, List.length_take, List.length_drop]; omega, ?_⟩
  refine (q_lpicked_t (k := 2) h1 (by omega) (by simp) (by simp)).imp ?_
  rintro r st2 ⟨⟨r1, rest, hp⟩, h2⟩
  have hm : ∀ p ∈ r, p = nms.take m ∨ p = nms.take s ++ (nms.drop m).take (2 * m - s - m) := fun p hp' => by
    have := hp.mem_iff.mp (List.mem_append_left rest hp')
    simpa using this
  refine ⟨⟨r1, fun p hp => ?_, nms, n4, fun p hp c hc => ?_⟩, h2.mono (by omega)⟩
  · rcases hm p hp with rfl | rfl
    · exact ⟨l1, n2.sublist s1, fun c hc => n3 c (s1.subset hc)⟩
    · exact ⟨l2, n2.sublist s2, fun c hc => n3 c (s2.subset hc)⟩
  · rcases hm p hp with rfl | rfl
    · exact s1.subset hc
    · exact s2.subset hc
theorem two_of {sh : List (List Int)} (h : sh.length = 2) : ∃ p q, sh = [p, q] := by
  match sh, h with
  | [p, q], _ => exact ⟨p, q, rfl⟩
theorem q_lsimple {st : List Int × Int × Int} {n m : Nat} (h : Pn n st) (hn : n ≤ 50000) (m2 : 2 ≤ m) (m4 : m ≤ 4) : RsP (m_lsimple st (m : Int)) fun r st' => (Tw m r.1 ∧ ∃ b : Br, r.2 = b.th ∧ b.Ok 0) ∧ Pn (n + 30) st' := by
  unfold m_lsimple M_lsimple
  walk_at "ml"
  refine (q_ldraw h (by omega) (by decide) (by decide)).imp ?_
  rintro a st1 ⟨⟨a0, a1⟩, h1⟩
  obtain ⟨s, hs, s1⟩ : ∃ s : Nat, (if 2 < (m : Int) then (1 : Int) else 0) * a = (s : Int) ∧ s ≤ 1 := by
    have : a = 0 ∨ a = 1 := by omega
    rcases this with rfl | rfl
    · exact ⟨0, by split <;> rfl, by decide⟩
    · by_cases hm : 2 < (m : Int)
      · exact ⟨1, by rw [if_pos hm]; rfl, by decide⟩
      · exact ⟨0, by rw [if_neg hm]; rfl, by decide⟩
  rw [hs]
  refine ⟨.inr ⟨by omega, by omega⟩, ?_⟩
  refine (q_ltwo h1 (by omega) (by omega) m4 (by omega)).imp ?_
  rintro sh st2 ⟨hT, h2⟩
  obtain ⟨p, q, rfl⟩ := two_of hT.len
  obtain ⟨p1, p2, p3⟩ := hT.pc p (by simp)
  rw [gix0, op_some]
  refine ⟨by omega, ?_⟩
  have hFc : Fc (p.filter fun c => decide (c ∈ q)) := ⟨p2.sublist List.filter_sublist, fun c hc => p3 c (List.mem_filter.mp hc).1, by have := List.length_filter_le (fun c => decide (c ∈ q)) p; omega⟩
  refine lcP (fun c => decide (c ∈ q)) id (fun c hc => ?_) ?_
  · walk_at "ml"
    rw [gix1, op_some]
    refine ⟨rfl, ?_⟩
    exact iteI (fun _ => trivial) fun _ => trivial
  rw [List.map_id]
  generalize p.filter (fun c => decide (c ∈ q)) = fc at hFc
  walk_at "ml"
  refine (q_ldraw h2 (by omega) (by decide) (by decide)).imp ?_
  rintro b st3 ⟨⟨b0, b1⟩, h3⟩
  have hn0 : ∀ x : Int, 0 ≤ x → x ≤ 1 → Ns [x] := fun x x0 x1 => ⟨by simp, by unfold Bd; simp; omega, by simpa using x0, by simp⟩
  refine (q_lpicked_r (k := 3) h3 (by omega) (by simp) (by simp)).imp ?_
  rintro rs st4 ⟨⟨r1, rest, hp⟩, h4⟩
  obtain ⟨rs', e1, r2⟩ : ∃ rs' : List (List Int × Cut), rs = rs'.map rowP ∧ ∀ r ∈ rs', RowOk r := by
    have hm : ∀ x ∈ rs, x = ([], Th.non) ∨ x = ([0], Th.tup [Th.int 1, Th.tup (List.map Th.int fc)]) ∨ x = ([1], Th.tup [Th.int 0, Th.tup (List.map Th.int fc)]) := fun x hx => by
      have := hp.mem_iff.mp (List.mem_append_left rest hx)
      simpa using this
    have gen : ∀ xs : List (List Int × Th), (∀ x ∈ xs, x = ([], Th.non) ∨ x = ([0], Th.tup [Th.int 1, Th.tup (List.map Th.int fc)]) ∨ x = ([1], Th.tup [Th.int 0, Th.tup (List.map Th.int fc)])) → ∃ rs' : List (List Int × Cut), xs = rs'.map rowP ∧ ∀ r ∈ rs', RowOk r := by
      intro xs
      induction xs with
      | nil => exact fun _ => ⟨[], rfl, by simp⟩
      | cons x xs ih =>
        intro hx
        obtain ⟨ys, e, hy⟩ := ih fun z hz => hx z (List.mem_cons_of_mem _ hz)
        rcases hx x List.mem_cons_self with rfl | rfl | rfl
        · exact ⟨([], none) :: ys, by rw [e]; rfl, fun r hr => by
            rcases List.mem_cons.mp hr with rfl | hr
            · exact ⟨⟨by simp, by simp, by simp, by simp⟩, trivial⟩
            · exact hy r hr⟩
        · exact ⟨([0], some (1, fc)) :: ys, by rw [e]; rfl, fun r hr => by
            rcases List.mem_cons.mp hr with rfl | hr
            · exact ⟨hn0 0 (by decide) (by decide), ⟨by decide, by unfold Bd; decide⟩, hFc⟩
            · exact hy r hr⟩
        · exact ⟨([1], some (0, fc)) :: ys, by rw [e]; rfl, fun r hr => by
            rcases List.mem_cons.mp hr with rfl | hr
            · exact ⟨hn0 1 (by decide) (by decide), ⟨by decide, by unfold Bd; decide⟩, hFc⟩
            · exact hy r hr⟩
    exact gen rs hm
  subst e1
  rw [List.length_map] at r1
  refine (q_ldraw h4 (by omega) (by omega) (by omega)).imp ?_
  rintro c st5 ⟨⟨c0, c1⟩, h5⟩
  refine op_ix c0 (by simp; omega) fun t ht => ?_
  refine ⟨⟨hT, ?_⟩, h5.mono (by omega)⟩
  simp only [List.mem_cons, List.not_mem_nil, or_false] at ht
  rcases ht with rfl | rfl | rfl
  · exact ⟨.apart [b], rfl, hn0 b b0 (by omega), by simp⟩
  · exact ⟨.sets rs', rfl, r2, fun z => by rw [z] at r1; simp at r1, by omega⟩
  · exact ⟨.num "counts" 2, rfl, .inl rfl, by decide, by unfold Bd; decide⟩
open PySem PySem.Spec PyProof.Rows L2 TL PySem.NumText
open Br
/-- the corner at a place -/
def ga (ns : List Int) (i : Int) : Int := ns[i.toNat]?.getD 0
theorem ga_ix {ns : List Int} {i : Int} (h0 : 0 ≤ i) (h1 : i < ns.length) : gIx ns i = some (ga ns i) := by
  obtain ⟨j, rfl⟩ := Int.eq_ofNat_of_zero_le h0
  unfold ga
  rw [Int.toNat_natCast, List.getElem?_eq_getElem (by omega)]
  exact atI_nat (List.getElem?_eq_getElem (by omega))
theorem ga_inj {ns : List Int} (h : Up ns) {i j : Int} (i0 : 0 ≤ i) (i1 : i < ns.length) (j0 : 0 ≤ j) (j1 : j < ns.length) (e : ga ns i = ga ns j) : i = j := by
  obtain ⟨a, rfl⟩ := Int.eq_ofNat_of_zero_le i0
  obtain ⟨b, rfl⟩ := Int.eq_ofNat_of_zero_le j0
  unfold ga at e
  rw [Int.toNat_natCast, Int.toNat_natCast, List.getElem?_eq_getElem (by omega), List.getElem?_eq_getElem (by omega)] at e
  have e : ns[a]'(by omega) = ns[b]'(by omega) := e
  have hp := List.pairwise_iff_getElem.mp h
  rcases Nat.lt_trichotomy a b with hl | hl | hl
  · have := hp a b (by omega) (by omega) hl
    omega
  · omega
  · have := hp b a (by omega) (by omega) hl
    omega
def rpc (ns : List Int) (f s k : Int) : List Int := [min (ga ns (f + k)) (ga ns (f + (k + 1) % s)), max (ga ns (f + k)) (ga ns (f + (k + 1) % s))]
def ring (ns : List Int) (f s : Int) : List (List Int) := (rng 0 s).map (rpc ns f s)
theorem ring_nd {ns : List Int} (h : Up ns) {f s : Int} (s3 : s = 3 ∨ s = 4 ∨ s = 5) (f0 : 0 ≤ f) (fs : f + s ≤ ns.length) : (ring ns f s).Nodup := by
  unfold ring
  refine List.pairwise_map.mpr ((rng_nodup 0 s).imp_of_mem fun {x y} hx hy hne e => ?_)
  have hx := mem_rng.mp hx
  have hy := mem_rng.mp hy
  have m1 : 0 ≤ (x + 1) % s ∧ (x + 1) % s < s := ⟨Int.emod_nonneg _ (by omega), Int.emod_lt_of_pos _ (by omega)⟩
  have m2 : 0 ≤ (y + 1) % s ∧ (y + 1) % s < s := ⟨Int.emod_nonneg _ (by omega), Int.emod_lt_of_pos _ (by omega)⟩
  unfold rpc at e
  have e1 := (List.cons.inj e).1
  have e2 := (List.cons.inj (List.cons.inj e).2).1
  have inj : ∀ i j : Int, 0 ≤ i → i < s → 0 ≤ j → j < s → ga ns (f + i) = ga ns (f + j) → i = j := fun i j i0 i1 j0 j1 e => by
    have := ga_inj h (show 0 ≤ f + i by omega) (by omega) (show 0 ≤ f + j by omega) (by omega) e
    omega
  have hc : (ga ns (f + x) = ga ns (f + y)) ∨ (ga ns (f + x) = ga ns (f + (y + 1) % s) ∧ ga ns (f + (x + 1) % s) = ga ns (f + y)) := by
    generalize ga ns (f + x) = u at e1 e2 ⊢
    generalize ga ns (f + (x + 1) % s) = v at e1 e2 ⊢
    generalize ga ns (f + y) = u' at e1 e2 ⊢
    generalize ga ns (f + (y + 1) % s) = v' at e1 e2 ⊢
    omega
  rcases hc with hc | ⟨hc1, hc2⟩
  · exact hne (inj x y hx.1 hx.2 hy.1 hy.2 hc)
  · have i1 := inj x _ hx.1 hx.2 m2.1 m2.2 hc1
    have i2 := inj _ y m1.1 m1.2 hy.1 hy.2 hc2
    rcases s3 with rfl | rfl | rfl <;> omega
theorem idx_ns {sh R : List (List Int)} (hn : R.Nodup) (hl : R.length ≤ 40) (hs : sh.length ≤ 1000) (hm : ∀ p ∈ R, p ∈ sh) : Ns (srt (R.map fun p => ((@List.idxOf (List Int) instBEqOfDecidableEq p sh : Nat) : Int))) := by
  refine ns_srt (List.pairwise_map.mpr (hn.imp_of_mem fun {p q} hp hq hne e => ?_)) (by rw [List.length_map]; exact hl) fun x hx => ?_
  · have e : @List.idxOf (List Int) instBEqOfDecidableEq p sh = @List.idxOf (List Int) instBEqOfDecidableEq q sh := by omega
    have h1 := (@List.idxOf_lt_length_iff (List Int) instBEqOfDecidableEq _ sh p).mpr (hm p hp)
    have h2 := (@List.idxOf_lt_length_iff (List Int) instBEqOfDecidableEq _ sh q).mpr (hm q hq)
    have g1 := @List.getElem_idxOf (List Int) instBEqOfDecidableEq _ p sh h1
    have g2 := @List.getElem_idxOf (List Int) instBEqOfDecidableEq _ q sh h2
    refine hne ?_
    rw [← g1, ← g2]
    simp only [e]
  · obtain ⟨p, hp, rfl⟩ := List.mem_map.mp hx
    have h1 := (@List.idxOf_lt_length_iff (List Int) instBEqOfDecidableEq _ sh p).mpr (hm p hp)
    unfold Bd
    omega
theorem q_lrings {st : List Int × Int × Int} {n : Nat} (h : Pn n st) (hn : n ≤ 50000) : RsP (m_lrings st) fun r st' => (∃ a b : List Int, r.2 = [a, b] ∧ (Ns a ∧ a ≠ []) ∧ Ns b ∧ b ≠ []) ∧ Pn (n + 30) st' := by
  unfold m_lrings M_lrings
  walk_at "ml"
  refine (q_ldraw h (by omega) (by decide) (by decide)).imp ?_
  rintro a st1 ⟨⟨a0, a1⟩, h1⟩
  refine (q_ldraw h1 (by omega) (by decide) (by decide)).imp ?_
  rintro b st2 ⟨⟨b0, b1⟩, h2⟩
  rw [gix0, op_some, gix1, op_some]
  obtain ⟨s0, e0⟩ : ∃ s : Nat, 3 + a = (s : Int) := ⟨(3 + a).toNat, by omega⟩
  obtain ⟨s1, e1⟩ : ∃ s : Nat, 3 + b = (s : Int) := ⟨(3 + b).toNat, by omega⟩
  rw [e0, e1, show (s0 : Int) + (s1 : Int) = ((s0 + s1 : Nat) : Int) by omega]
  refine (q_lcorners (k := s0 + s1) h2 (by omega) (by omega) (by omega)).imp ?_
  rintro ns st3 ⟨⟨n1, n2, n3⟩, h3⟩
  have hR : ∀ f s : Int, 0 ≤ f → (s = 3 ∨ s = 4 ∨ s = 5) → f + s ≤ ns.length → (ring ns f s).Nodup ∧ ((ring ns f s).length : Int) = s := fun f s f0 hs hl => ⟨ring_nd n2 hs f0 hl, by unfold ring; rw [List.length_map, rng_length]; omega⟩
  obtain ⟨d0, l0⟩ := hR 0 s0 (by omega) (by omega) (by omega)
  obtain ⟨d1, l1⟩ := hR s0 s1 (by omega) (by omega) (by omega)
  refine cutP (fun e => e = (some st3, some [(s0 : Int), (s1 : Int)], some ns, some [ring ns 0 s0, ring ns s0 s1], none, none, none, none, none, none, none, none, none, none, ())) ?_ ?_
  · rw [sp_kill]
    walk_at "ml"
    simp only [gix0, gix1, op_some]
    refine loopP (fun i e => e = (some st3, some [(s0 : Int), (s1 : Int)], some ns, some ([ring ns 0 s0, ring ns s0 s1].take i), none, none, none, none, none, none, none, none, none, none, ())) rfl ?_ ?_
    · rintro i x e hx rfl
      obtain ⟨f, s⟩ := x
      rw [sp_kill]
      walk_at "ml"
      have hfs : (0 ≤ f ∧ (s = 3 ∨ s = 4 ∨ s = 5) ∧ f + s ≤ ns.length) ∧ [ring ns 0 s0, ring ns s0 s1].take (i + 1) = [ring ns 0 s0, ring ns s0 s1].take i ++ [ring ns f s] := by
        match i, hx with
        | 0, hx =>
          cases hx
          exact ⟨⟨by omega, by omega, by omega⟩, rfl⟩
        | 1, hx =>
          cases hx
          exact ⟨⟨by omega, by omega, by omega⟩, rfl⟩
        | i + 2, hx => simp at hx
      obtain ⟨⟨f0, hs, hf⟩, ht⟩ := hfs
      have hti : ([ring ns 0 s0, ring ns s0 s1].take i).length ≤ 2 := by rw [List.length_take]; simp; omega
      rw [ht]
      generalize [ring ns 0 s0, ring ns s0 s1].take i = A at hti ⊢
      refine ⟨by simp [bigI]; omega, by rw [rng_length]; omega, lcM (fun k => (ga ns (f + k), ga ns (f + (k + 1) % s))) (fun k hk => ?_) ?_⟩
      · have hk := mem_rng.mp hk
        have m1 : 0 ≤ (k + 1) % s ∧ (k + 1) % s < s := ⟨Int.emod_nonneg _ (by omega), Int.emod_lt_of_pos _ (by omega)⟩
        walk_at "ml"
        rw [ga_ix (by omega) (by omega), op_some]
        refine ⟨by omega, ?_⟩
        rw [ga_ix (by omega) (by omega), op_some]
      · walk_at "ml"
        refine ⟨by rw [List.length_map, rng_length]; omega, lcM (fun p => [min p.1 p.2, max p.1 p.2]) (fun p hp => ?_) ?_⟩
        · obtain ⟨u, v⟩ := p
          walk_at "ml"
        · walk_at "ml"
          refine ⟨by omega, ?_⟩
          rw [List.map_map]
          rfl
    · rintro e rfl
      rfl
  · rintro e rfl
    walk_at "ml"
    simp only [gix0, gix1, op_some]
    refine ⟨by omega, ?_⟩
    generalize hr0 : ring ns 0 s0 = R0 at d0 l0 ⊢
    generalize hr1 : ring ns s0 s1 = R1 at d1 l1 ⊢
    rw [show (R0.length : Int) + (R1.length : Int) = ((R0.length + R1.length : Nat) : Int) by omega]
    refine (q_lpicked_t (k := R0.length + R1.length) h3 (by omega) (by rw [List.length_append]; omega) (by rw [List.length_append]; omega)).imp ?_
    rintro sh st4 ⟨⟨r1, rest, hp⟩, h4⟩
    have hrest : rest = [] := by
      have := hp.length_eq
      rw [List.length_append, List.length_append] at this
      exact List.length_eq_zero_iff.mp (by omega)
    rw [hrest, List.append_nil] at hp
    have hm0 : ∀ p ∈ R0, p ∈ sh := fun p h => hp.mem_iff.mpr (List.mem_append_left _ h)
    have hm1 : ∀ p ∈ R1, p ∈ sh := fun p h => hp.mem_iff.mpr (List.mem_append_right _ h)
    have g0 := idx_ns d0 (by omega) (by omega) hm0
    have g1 := idx_ns d1 (by omega) (by omega) hm1
    have ne : ∀ R : List (List Int), 0 < R.length → srt (R.map fun p => ((@List.idxOf (List Int) instBEqOfDecidableEq p sh : Nat) : Int)) ≠ [] := fun R hR z => by
      have := congrArg List.length z
      rw [(srt_perm _).length_eq, List.length_map] at this
      simp at this
      rw [this] at hR
      simp at hR
    have ne0 := ne R0 (by omega)
    have ne1 := ne R1 (by omega)
    refine lcM (fun R => srt (R.map fun p => ((@List.idxOf (List Int) instBEqOfDecidableEq p sh : Nat) : Int))) (fun R hR => ?_) ?_
    · have hR : (∀ p ∈ R, p ∈ sh) ∧ R.length ≤ 10 := by
        rcases List.mem_cons.mp hR with rfl | hR
        · exact ⟨hm0, by omega⟩
        · rw [List.mem_singleton.mp hR]
          exact ⟨hm1, by omega⟩
      walk_at "ml"
      refine ⟨by omega, lcM (fun p => ((@List.idxOf (List Int) instBEqOfDecidableEq p sh : Nat) : Int)) (fun p hp => ?_) ?_⟩
      · walk_at "ml"
        unfold gIdxT
        rw [if_pos (hR.1 p hp), op_some]
      · walk_at "ml"
        rw [List.length_map]
        omega
    · walk_at "ml"
      rw [List.map_cons, List.map_cons, List.map_nil]
      generalize srt (R0.map fun p => ((@List.idxOf (List Int) instBEqOfDecidableEq p sh : Nat) : Int)) = A0 at g0 ne0
      generalize srt (R1.map fun p => ((@List.idxOf (List Int) instBEqOfDecidableEq p sh : Nat) : Int)) = A1 at g1 ne1
      unfold gSortLL
      rw [if_pos (by simp), op_some]
      have hpm : ([A0, A1].mergeSort leLL).Perm [A0, A1] := List.mergeSort_perm _ _
      obtain ⟨x, y, exy⟩ := two_of (sh := [A0, A1].mergeSort leLL) (by rw [hpm.length_eq]; rfl)
      have hmem : ∀ z ∈ [A0, A1].mergeSort leLL, Ns z ∧ z ≠ [] := fun z hz => by
        have := hpm.mem_iff.mp hz
        simp only [List.mem_cons, List.not_mem_nil, or_false] at this
        rcases this with rfl | rfl
        · exact ⟨g0, ne0⟩
        · exact ⟨g1, ne1⟩
      rw [exy] at hmem ⊢
      exact ⟨⟨x, y, rfl, hmem x (by simp), hmem y (by simp)⟩, h4.mono (by omega)⟩
open PySem PySem.Spec PyProof.Rows L2 TL PySem.NumText
open Br
theorem spare_len {X : List Int} (h1 : (77 : Int) ∉ X) (h2 : (100000000000000000000000000004 : Int) ∉ X) (h3 : (-99999999999999999999999999993 : Int) ∉ X) (h4 : ¬ ((-999999999999999999999999999999 : Int) ∈ X ∧ (999999999999999999999999999999 : Int) ∈ X)) :
    4 ≤ (([-999999999999999999999999999999, 999999999999999999999999999999, 100000000000000000000000000004, -99999999999999999999999999993, 77] : List Int).filter fun c => !decide (c ∈ X)).length := by
  by_cases a : (-999999999999999999999999999999 : Int) ∈ X
  · have b : (999999999999999999999999999999 : Int) ∉ X := fun z => h4 ⟨a, z⟩
    simp [List.filter_cons, h1, h2, h3, a, b]
  · by_cases b : (999999999999999999999999999999 : Int) ∈ X
    · simp [List.filter_cons, h1, h2, h3, a, b]
    · simp [List.filter_cons, h1, h2, h3, a, b]
theorem q_lbarred {st : List Int × Int × Int} {n : Nat} (h : Pn n st) (hn : n ≤ 40000) : RsP (m_lbarred st) fun r st' => (∃ (b : Br) (k : Nat), r.2 = b.th ∧ b.Ok k ∧ k ≤ 5) ∧ Pn (n + 100) st' := by
  unfold m_lbarred M_lbarred
  walk_at "ml"
  refine (q_ldraw h (by omega) (by decide) (by decide)).imp ?_
  rintro w st1 ⟨⟨w0, w1⟩, h1⟩
  refine iteI (fun _ => ?_) fun wz => ?_
  · refine (q_lrings h1 (by omega)).imp ?_
    rintro ⟨sh, ss⟩ st2 ⟨⟨a, b, e, ⟨a1, a2⟩, b1, b2⟩, h2⟩
    have e : ss = [a, b] := e
    subst e
    refine (q_ldraw h2 (by omega) (by decide) (by decide)).imp ?_
    rintro i st3 ⟨⟨i0, i1⟩, h3⟩
    refine op_ix i0 (by simp; omega) fun s hs => ?_
    have hs : Ns s ∧ s ≠ [] := by
      simp only [List.mem_cons, List.not_mem_nil, or_false] at hs
      rcases hs with rfl | rfl
      · exact ⟨a1, a2⟩
      · exact ⟨b1, b2⟩
    refine (q_ldraw h3 (by omega) (by decide) (by decide)).imp ?_
    rintro j st4 ⟨⟨j0, j1⟩, h4⟩
    refine op_ix j0 (by simp; omega) fun t ht => ⟨?_, h4.mono (by omega)⟩
    simp only [List.mem_cons, List.not_mem_nil, or_false] at ht
    rcases ht with rfl | rfl
    · exact ⟨.evens [a, b], 0, rfl, ⟨fun s hs => by
        rcases List.mem_cons.mp hs with rfl | hs
        · exact ⟨a1, a2⟩
        · rw [List.mem_singleton.mp hs]
          exact ⟨b1, b2⟩, by simp, by simp⟩, by omega⟩
    · exact ⟨.apart s, 0, rfl, hs, by omega⟩
  · refine (q_ldraw h1 (by omega) (by decide) (by decide)).imp ?_
    rintro m st2 ⟨⟨m0, m1⟩, h2⟩
    obtain ⟨m, rfl⟩ := Int.eq_ofNat_of_zero_le m0
    rw [show (2 : Int) + (m : Int) = ((2 + m : Nat) : Int) by omega]
    refine (q_lsimple (m := 2 + m) h2 (by omega) (by omega) (by omega)).imp ?_
    rintro ⟨sh, t⟩ st3 ⟨⟨hT, b, e, hb⟩, h3⟩
    have e : t = b.th := e
    have hT : Tw (2 + m) sh := hT
    subst e
    refine iteI (fun _ => ⟨⟨b, 0, rfl, hb, by omega⟩, h3.mono (by omega)⟩) fun _ => ?_
    obtain ⟨p, q, epq⟩ := two_of hT.len
    have epq : sh = [p, q] := epq
    subst epq
    obtain ⟨p1, p2, p3⟩ := hT.pc p (by simp)
    obtain ⟨q1, q2, q3⟩ := hT.pc q (by simp)
    obtain ⟨r, hr, hin⟩ := hT.tg
    obtain ⟨no1, no2⟩ := hr.no (by omega)
    have hX : ∀ c ∈ p ++ q, c ∈ r := fun c hc => by
      rcases List.mem_append.mp hc with hc | hc
      · exact hin p (by simp) c hc
      · exact hin q (by simp) c hc
    have hF := spare_len (X := p ++ q) (fun z => (no1 _ (hX _ z)).1 rfl) (fun z => (no1 _ (hX _ z)).2.1 rfl) (fun z => (no1 _ (hX _ z)).2.2 rfl) (fun z => no2 ⟨hX _ z.1, hX _ z.2⟩)
    refine lcP (fun c => !decide (c ∈ p ++ q)) id (fun c hc => ?_) ?_
    · walk_at "ml"
      rw [gix0, op_some, gix1, op_some]
      refine ⟨by omega, rfl, ?_⟩
      exact iteI (fun _ => trivial) fun _ => trivial
    rw [List.map_id]
    have hFs : ∀ x ∈ ([-999999999999999999999999999999, 999999999999999999999999999999, 100000000000000000000000000004, -99999999999999999999999999993, 77] : List Int).filter (fun c => !decide (c ∈ p ++ q)), Bd x := fun x hx => by
      have := (List.mem_filter.mp hx).1
      unfold Bd
      simp only [List.mem_cons, List.not_mem_nil, or_false] at this
      omega
    have hFn : (([-999999999999999999999999999999, 999999999999999999999999999999, 100000000000000000000000000004, -99999999999999999999999999993, 77] : List Int).filter (fun c => !decide (c ∈ p ++ q))).Nodup := by
      have h5 : ([-999999999999999999999999999999, 999999999999999999999999999999, 100000000000000000000000000004, -99999999999999999999999999993, 77] : List Int).Nodup := by decide
      exact h5.filter _
    have hFl : (([-999999999999999999999999999999, 999999999999999999999999999999, 100000000000000000000000000004, -99999999999999999999999999993, 77] : List Int).filter (fun c => !decide (c ∈ p ++ q))).length ≤ 5 := Nat.le_trans (List.length_filter_le _ _) (by simp)
    generalize ([-999999999999999999999999999999, 999999999999999999999999999999, 100000000000000000000000000004, -99999999999999999999999999993, 77] : List Int).filter (fun c => !decide (c ∈ p ++ q)) = F at hF hFs hFn hFl ⊢
    walk_at "ml"
    rw [gix0, op_some]
    refine (q_ldraw h3 (by omega) (by omega) (by omega)).imp ?_
    rintro u st4 ⟨⟨u0, u1⟩, h4⟩
    obtain ⟨u, rfl⟩ := Int.eq_ofNat_of_zero_le u0
    rw [show (1 : Int) + (u : Int) = ((1 + u : Nat) : Int) by omega]
    refine (q_lpicked (k := 1 + u) h4 (by omega) (by omega) (by omega)).imp ?_
    rintro lone st5 ⟨⟨l1, rest, hp⟩, h5⟩
    have hln : lone.Nodup := (List.nodup_append.mp (hp.nodup_iff.mpr hFn)).1
    have hlb : ∀ x ∈ lone, Bd x := fun x hx => hFs x (hp.mem_iff.mp (List.mem_append_left _ hx))
    refine lcM (fun p => srt (p ++ lone)) (fun v hv => ?_) ?_
    · obtain ⟨v1, _⟩ := hT.pc v hv
      walk_at "ml"
      exact ⟨by omega, by rw [List.length_append]; omega⟩
    · walk_at "ml"
      refine (q_ldraw h5 (by omega) (by decide) (by decide)).imp ?_
      rintro v st6 ⟨_, h6⟩
      refine iteI (fun _ => ?_) fun _ => ?_
      · refine ⟨by omega, ⟨.link (srt lone) b, 1, rfl, ⟨⟨⟨srt_up hln, fun x hx => hlb x ((srt_perm _).mem_iff.mp hx), by rw [(srt_perm _).length_eq]; omega⟩, fun z => ?_⟩, hb⟩, by omega⟩, h6.mono (by omega)⟩
        have := congrArg List.length z
        rw [(srt_perm _).length_eq] at this
        simp at this
        rw [this] at l1
        simp at l1
        omega
      · refine cutP (fun e => ∃ (b' : Br), e = (some st6, some w, some [p, q], none, some b'.th, some F, some lone, some ([p, q].map fun p => srt (p ++ lone)), none, none, ()) ∧ b'.Ok lone.length) ?_ ?_
        · rw [sp_kill]
          walk_at "ml"
          refine loopP (fun i e => ∃ (b' : Br), e = (some st6, some w, some [p, q], none, some b'.th, some F, some lone, some ([p, q].map fun p => srt (p ++ lone)), none, none, ()) ∧ b'.Ok i) ⟨b, rfl, hb⟩ ?_ ?_
          · rintro i c e hc ⟨b', rfl, hb'⟩
            rw [sp_kill]
            walk_at "ml"
            exact ⟨.link [c] b', rfl, ⟨⟨by simp, by simpa using hlb c (List.mem_of_getElem? hc), by simp⟩, by simp⟩, hb'⟩
          · rintro e ⟨b', rfl, hb'⟩
            exact ⟨b', rfl, hb'⟩
        · rintro e ⟨b', rfl, hb'⟩
          walk_at "ml"
          exact ⟨⟨b', lone.length, rfl, hb', by omega⟩, h6.mono (by omega)⟩
open PySem PySem.Spec PyProof.Rows L2 TL PySem.NumText
open Br
theorem lit_set : (Str.ofString "set") = txt (Br.lns (.sets [([], none)])) := by decide +kernel
theorem lit_cut : (Str.ofString "cut by 0") = txt (Br.lns (.sets [([], some (0, []))])) := by decide +kernel
theorem law_true (ns : List Int) : RsP (m_law ns) fun b _ => b = true := by
  unfold m_law M_law
  walk_at "ml"
  refine (q_lpen ns).imp ?_
  rintro st _ h0
  refine cutP (fun e => ∃ st, e = (some ns, some st, none, none, ())) ?_ ?_
  · rw [sp_kill]
    walk_at "ml"
    refine ⟨by decide, ?_⟩
    refine loopR (n := 5) rfl (fun i e => ∃ st, e = (some ns, some st, none, none, ()) ∧ Pn (i * 3000) st) ⟨st, rfl, h0.mono (by omega)⟩ ?_ ?_
    · rintro i e hi ⟨st, rfl, h1⟩
      rw [sp_kill]
      walk_at "ml"
      refine (q_ldraw h1 (by omega) (by decide) (by decide)).imp ?_
      rintro j st1 ⟨⟨j0, j1⟩, h2⟩
      refine (q_ldraw h2 (by omega) (by decide) (by decide)).imp ?_
      rintro l st2 ⟨⟨l0, l1⟩, h3⟩
      refine op_ix l0 (by simp; omega) fun k hk => ?_
      have hk : 0 ≤ k ∧ k ≤ 5 := by
        simp only [List.mem_cons, List.not_mem_nil, or_false] at hk
        omega
      obtain ⟨k, rfl⟩ := Int.eq_ofNat_of_zero_le hk.1
      refine (q_lbar h3 (by omega) (by omega)).imp ?_
      rintro t st3 ⟨⟨b, rfl, hb⟩, h4⟩
      refine (q_lright hb (by omega)).imp ?_
      rintro v _ rfl
      refine iteI (fun z => nomatch z) fun _ => ?_
      refine (q_lbarred h4 (by omega)).imp ?_
      rintro ⟨sh, t⟩ st4 ⟨⟨b', k', e', hb', hk'⟩, h5⟩
      have e' : t = b'.th := e'
      subst e'
      refine (q_lright hb' hk').imp ?_
      rintro v _ rfl
      refine iteI (fun z => nomatch z) fun _ => ?_
      exact ⟨st4, rfl, h5.mono (by omega)⟩
    · rintro e ⟨st, rfl, _⟩
      exact ⟨st, rfl⟩
  · rintro e ⟨st, rfl⟩
    walk_at "ml"
    rw [lit_set, lit_cut]
    have o1 : Br.Ok 0 (.sets [([], none)]) := ⟨fun r hr => by
      rw [List.mem_singleton.mp hr]
      exact ⟨⟨by simp, by simp, by simp, by simp⟩, trivial⟩, by simp, by simp⟩
    have o2 : Br.Ok 0 (.sets [([], some (0, []))]) := ⟨fun r hr => by
      rw [List.mem_singleton.mp hr]
      exact ⟨⟨by simp, by simp, by simp, by simp⟩, ⟨by decide, by unfold Bd; decide⟩, ⟨by simp, by simp, by simp⟩⟩, by simp, by simp⟩
    refine (q_read_bar o1 (by decide)).imp ?_
    rintro r _ rfl
    have e1 : gEqT (Br.th (.sets [([], none)])) (Th.tup [Th.str (Str.ofString "sets"), Th.lst [Th.tup [Th.tup [], Th.non]]]) = some true := by decide +kernel
    have e2 : gEqT (Br.th (.sets [([], some (0, []))])) (Th.tup [Th.str (Str.ofString "sets"), Th.lst [Th.tup [Th.tup [], Th.tup [Th.int 0, Th.tup []]]]]) = some true := by decide +kernel
    rw [e1, op_some, if_pos rfl]
    refine (q_read_bar o2 (by decide)).imp ?_
    rintro r _ rfl
    rw [e2, op_some]
def topS (i : Nat) : Stmt := PySem.Challenge.pw_wholesides_k51_bars_as_texts.main.body.getD i (.Pass ⟨0, 0, 0, 0⟩)
structure Tx (mg : Str → Option Value) : Prop where
  b_str : mg "str" = none
  b_isinstance : mg "isinstance" = none
  b_int : mg "int" = none
  b_len : mg "len" = none
  b_all : mg "all" = none
  b_range : mg "range" = none
  b_tuple : mg "tuple" = none
  b_abs : mg "abs" = none
  b_list : mg "list" = none
  b_min : mg "min" = none
  b_max : mg "max" = none
  b_sorted : mg "sorted" = none
  b_repr : mg "repr" = none
  c_MOST_CORNERS : ∃ t, mg "MOST_CORNERS" = some (.int 6 t)
  c_MOST_FIGURES : ∃ t, mg "MOST_FIGURES" = some (.int 30 t)
  c_MOST_LINKS : ∃ t, mg "MOST_LINKS" = some (.int 5 t)
section
variable {P : Program} {w : World} {K : PySem.W.Frag} {mg : Str → Option Value} {base : Heap}
abbrev s_line_of : Stmt := topS 6
abbrev N_line_of : List Str := ["word", "numbers", "number"]
theorem sc_line_of : FnScope N_line_of ["word", "numbers"] (defScope s_line_of) := ⟨rfl, rfl, rfl, by decide +kernel, rfl, by decide +kernel, by decide +kernel⟩
theorem ok_line_of {f : Addr} {fd : FuncData} (F : Fun K "line_of" "line_of" s_line_of f fd) (T : Tx mg) : FnOk P w K mg base CX0 1 f fd ["word", "numbers"] (sp_line_of K) := by
  have sc := sc_line_of
  refine F.ok sc (len_line_of K) (fun cdv A outer s H vs Q E hr h => ⟨t_line_of K, ?_, rd_line_of h⟩)
  exact (pss_one (ps_ret (pe_join pe_str (pe_op op_cat (pe_lst (pa_cons (pv 0) pa_nil)) (pe_lc (own := [("number", 2)]) (by rfl) sc.nd (pi_tup (pv 1)) (blkOk_by (own := [("number", 2)]) (N := N_line_of) (sc := defScope s_line_of) (by decide +kernel)) (fun _ _ _ _ _ => (pg_name (i := 2) sc.nd rfl (by first | exact .inl rfl | exact .inr rfl))) (fun _ _ _ _ _ => pts_nil) (fun _ _ _ _ _ => (pe_callTy cr_str (by rfl) T.b_str (by decide +kernel) (pa_cons (pv 2) pa_nil))))))))
abbrev s_line_of_l : Stmt := topS 6
abbrev N_line_of_l : List Str := ["word", "numbers", "number"]
theorem sc_line_of_l : FnScope N_line_of_l ["word", "numbers"] (defScope s_line_of_l) := ⟨rfl, rfl, rfl, by decide +kernel, rfl, by decide +kernel, by decide +kernel⟩
theorem ok_line_of_l {f : Addr} {fd : FuncData} (F : Fun K "line_of" "line_of" s_line_of_l f fd) (T : Tx mg) : FnOk P w K mg base CX0 1 f fd ["word", "numbers"] (sp_line_of_l K) := by
  have sc := sc_line_of_l
  refine F.ok sc (len_line_of_l K) (fun cdv A outer s H vs Q E hr h => ⟨t_line_of_l K, ?_, rd_line_of_l h⟩)
  exact (pss_one (ps_ret (pe_join pe_str (pe_op op_cat (pe_lst (pa_cons (pv 0) pa_nil)) (pe_lc (own := [("number", 2)]) (by rfl) sc.nd (pi_list (pv 1)) (blkOk_by (own := [("number", 2)]) (N := N_line_of_l) (sc := defScope s_line_of_l) (by decide +kernel)) (fun _ _ _ _ _ => (pg_name (i := 2) sc.nd rfl (by first | exact .inl rfl | exact .inr rfl))) (fun _ _ _ _ _ => pts_nil) (fun _ _ _ _ _ => (pe_callTy cr_str (by rfl) T.b_str (by decide +kernel) (pa_cons (pv 2) pa_nil))))))))
abbrev s_lines_of : Stmt := topS 7
abbrev N_lines_of : List Str := ["text"]
theorem sc_lines_of : FnScope N_lines_of ["text"] (defScope s_lines_of) := ⟨rfl, rfl, rfl, by decide +kernel, rfl, by decide +kernel, by decide +kernel⟩
theorem ok_lines_of {f : Addr} {fd : FuncData} (F : Fun K "lines_of" "lines_of" s_lines_of f fd) (T : Tx mg) : FnOk P w K mg base CX0 1 f fd ["text"] (sp_lines_of K) := by
  have sc := sc_lines_of
  refine F.ok sc (len_lines_of K) (fun cdv A outer s H vs Q E hr h => ⟨t_lines_of K, ?_, rd_lines_of h⟩)
  exact (pss_cons (ps_if (pt_not (pt_val (pe_callB call_isi (by rfl) T.b_isinstance (by decide +kernel) (pa_cons (pv 0) (pa_cons (pe_bltn (v := .ty "str") (u := .type "str") (by rfl) T.b_str (by decide +kernel) rfl) pa_nil))))) (pss_one ps_never) pss_nil)
      (pss_one (ps_ret (pe_split (pv 0) pe_str))))
abbrev s_number_in : Stmt := topS 8
abbrev N_number_in : List Str := ["word", "figures", "sign"]
theorem sc_number_in : FnScope N_number_in ["word"] (defScope s_number_in) := ⟨rfl, rfl, rfl, by decide +kernel, rfl, by decide +kernel, by decide +kernel⟩
theorem ok_number_in {f : Addr} {fd : FuncData} (F : Fun K "number_in" "number_in" s_number_in f fd) (T : Tx mg) : FnOk P w K mg base CX0 1 f fd ["word"] (sp_number_in K) := by
  have sc := sc_number_in
  refine F.ok sc (len_number_in K) (fun cdv A outer s H vs Q E hr h => ⟨t_number_in K, ?_, rd_number_in h⟩)
  exact (pss_cons (ps_set (i := 1) sc.nd rfl (.inl rfl) (pe_slice sl_str (pv 0) (po_some (pe_callTy cr_intB (by rfl) T.b_int (by decide +kernel) (pa_cons (pe_cmpR op_eq (pe_slice sl_str (pv 0) po_none (po_some pe_int)) pe_str (nomark _)) pa_nil))) po_none))
      (pss_cons (ps_if (PW.pt (pw_or (pt_not (pt_chain o_le o_le pe_int (pe_callB cr_lenS (by rfl) T.b_len (by decide +kernel) (pa_cons (pv 1) pa_nil)) (pe_gI (by rfl) T.c_MOST_FIGURES))) (pw_or1 (pt_not (pt_val (pe_callB (cr_all rfl) (by rfl) T.b_all (by decide +kernel) (pa_cons (pe_lc (own := [("sign", 2)]) (by rfl) sc.nd (pi_str (pv 1)) (blkOk_by (own := [("sign", 2)]) (N := N_number_in) (sc := defScope s_number_in) (by decide +kernel)) (fun _ _ _ _ _ => (pg_name (i := 2) sc.nd rfl (by first | exact .inl rfl | exact .inr rfl))) (fun _ _ _ _ _ => pts_nil) (fun _ _ _ _ _ => (pe_cmpR op_in_sign (pv 2) pe_str (by rfl)))) pa_nil))))))) (pss_one (ps_ret pe_non)) pss_nil)
      (pss_cons (ps_if (PW.pt (pw_and (pt_cmpR op_eq (pe_ix ix_str (pv 1) pe_int (fun _ _ => rfl)) pe_str (nomark _)) (pw_and1 (pt_cmpR op_ne (pv 0) pe_str (nomark _))))) (pss_one (ps_ret pe_non)) pss_nil)
      (pss_one (ps_ret (pe_callTy cr_intS (by rfl) T.b_int (by decide +kernel) (pa_cons (pv 0) pa_nil)))))))
abbrev s_rising_in : Stmt := topS 9
abbrev N_rising_in : List Str := ["words", "numbers", "word", "k"]
theorem sc_rising_in : FnScope N_rising_in ["words"] (defScope s_rising_in) := ⟨rfl, rfl, rfl, by decide +kernel, rfl, by decide +kernel, by decide +kernel⟩
theorem ok_rising_in {f : Addr} {fd : FuncData} (F : Fun K "rising_in" "rising_in" s_rising_in f fd) (T : Tx mg) (h_number_in : Has P w K mg base "number_in" ["word"] 1 (sp_number_in K)) : FnOk P w K mg base CX0 2 f fd ["words"] (sp_rising_in K) := by
  have sc := sc_rising_in
  refine F.ok sc (len_rising_in K) (fun cdv A outer s H vs Q E hr h => ⟨t_rising_in K, ?_, rd_rising_in h⟩)
  exact (pss_cons (ps_set (i := 1) sc.nd rfl (.inr rfl) (pe_lc (own := [("word", 2)]) (by rfl) sc.nd (pi_list (pv 0)) (blkOk_by (own := [("word", 2)]) (N := N_rising_in) (sc := defScope s_rising_in) (by decide +kernel)) (fun _ _ _ _ _ => (pg_name (i := 2) sc.nd rfl (by first | exact .inl rfl | exact .inr rfl))) (fun _ _ _ _ _ => pts_nil) (fun _ _ _ _ _ => (pe_h h_number_in (hr.mono (by decide)) (by rfl) (pa_cons (pv 2) pa_nil)))))
      (pss_cons (ps_if (PW.pt (pw_or (pt_cmpR (op_inD (units65 hr)) pe_non (pv 1) (by rfl)) (pw_or1 (pt_not (pt_val (pe_callB (cr_all rfl) (by rfl) T.b_all (by decide +kernel) (pa_cons (pe_lc (own := [("k", 3)]) (by rfl) sc.nd (pi_range2 (by rfl) T.b_range (pa_cons pe_int (pa_cons (pe_callB cr_len (by rfl) T.b_len (by decide +kernel) (pa_cons (pv 1) pa_nil)) pa_nil))) (blkOk_by (own := [("k", 3)]) (N := N_rising_in) (sc := defScope s_rising_in) (by decide +kernel)) (fun _ _ _ _ _ => (pg_name (i := 3) sc.nd rfl (by first | exact .inl rfl | exact .inr rfl))) (fun _ _ _ _ _ => pts_nil) (fun _ _ _ _ _ => (pe_cmpR o_lt (pe_ix ix_list (pv 1) (pe_op o_sub (pv 3) pe_int) (fun _ _ => rfl)) (pe_ix ix_list (pv 1) (pv 3) (fun _ _ => rfl)) (nomark _)))) pa_nil))))))) (pss_one (ps_ret pe_non)) pss_nil)
      (pss_one (ps_ret (pv 1)))))
abbrev s_face_in : Stmt := topS 10
abbrev N_face_in : List Str := ["words", "numbers"]
theorem sc_face_in : FnScope N_face_in ["words"] (defScope s_face_in) := ⟨rfl, rfl, rfl, by decide +kernel, rfl, by decide +kernel, by decide +kernel⟩
theorem ok_face_in {f : Addr} {fd : FuncData} (F : Fun K "face_in" "face_in" s_face_in f fd) (T : Tx mg) (h_rising_in : Has P w K mg base "rising_in" ["words"] 2 (sp_rising_in K)) : FnOk P w K mg base CX0 3 f fd ["words"] (sp_face_in K) := by
  have sc := sc_face_in
  refine F.ok sc (len_face_in K) (fun cdv A outer s H vs Q E hr h => ⟨t_face_in K, ?_, rd_face_in h⟩)
  exact (pss_cons (ps_set (i := 1) sc.nd rfl (.inl rfl) (pe_h h_rising_in (hr.mono (by decide)) (by rfl) (pa_cons (pv 0) pa_nil)))
      (pss_cons (ps_if (PW.pt (pw_or (pt_cmpR op_isN1 (pv 1) pe_non (nomark _)) (pw_or1 (pt_cmpR o_gt (pe_callB cr_len (by rfl) T.b_len (by decide +kernel) (pa_cons (pv 1) pa_nil)) (pe_gI (by rfl) T.c_MOST_CORNERS) (nomark _))))) (pss_one (ps_ret pe_non)) pss_nil)
      (pss_one (ps_ret (pe_callTy cr_tuple (by rfl) T.b_tuple (by decide +kernel) (pa_cons (pv 1) pa_nil))))))
abbrev s_place_in : Stmt := topS 11
abbrev N_place_in : List Str := ["word", "number"]
theorem sc_place_in : FnScope N_place_in ["word"] (defScope s_place_in) := ⟨rfl, rfl, rfl, by decide +kernel, rfl, by decide +kernel, by decide +kernel⟩
theorem ok_place_in {f : Addr} {fd : FuncData} (F : Fun K "place_in" "place_in" s_place_in f fd) (T : Tx mg) (h_number_in : Has P w K mg base "number_in" ["word"] 1 (sp_number_in K)) : FnOk P w K mg base CX0 2 f fd ["word"] (sp_place_in K) := by
  have sc := sc_place_in
  refine F.ok sc (len_place_in K) (fun cdv A outer s H vs Q E hr h => ⟨t_place_in K, ?_, rd_place_in h⟩)
  exact (pss_cons (ps_set (i := 1) sc.nd rfl (.inl rfl) (pe_h h_number_in (hr.mono (by decide)) (by rfl) (pa_cons (pv 0) pa_nil)))
      (pss_cons (ps_if (PW.pt (pw_or (pt_cmpR op_isN1 (pv 1) pe_non (nomark _)) (pw_or1 (pt_cmpR o_lt (pv 1) pe_int (nomark _))))) (pss_one (ps_ret pe_non)) pss_nil)
      (pss_one (ps_ret (pv 1)))))
abbrev s_row_line : Stmt := topS 14
abbrev N_row_line : List Str := ["row", "laid", "cut"]
theorem sc_row_line : FnScope N_row_line ["row"] (defScope s_row_line) := ⟨rfl, rfl, rfl, by decide +kernel, rfl, by decide +kernel, by decide +kernel⟩
theorem ok_row_line {f : Addr} {fd : FuncData} (F : Fun K "row_line" "row_line" s_row_line f fd) (T : Tx mg) (h_line_of : Has P w K mg base "line_of" ["word", "numbers"] 1 (sp_line_of K)) : FnOk P w K mg base CX0 2 f fd ["row"] (sp_row_line K) := by
  have sc := sc_row_line
  refine F.ok sc (len_row_line K) (fun cdv A outer s H vs Q E hr h => ⟨t_row_line K, ?_, rd_row_line h⟩)
  exact (pss_cons (ps_asg (pv 0) (pg_tup rfl (pgs_cons (pg_name (i := 1) sc.nd rfl (.inl rfl)) (pgs_cons (pg_name (i := 2) sc.nd rfl (.inl rfl)) pgs_nil))))
      (pss_cons (ps_if (pt_cmpR op_isN1 (pv 2) pe_non (nomark _)) (pss_one (ps_ret (pe_h h_line_of (hr.mono (by decide)) (by rfl) (pa_cons pe_str (pa_cons (pv 1) pa_nil))))) pss_nil)
      (pss_one (ps_ret (pe_op o_adds (pe_op o_adds (pe_h h_line_of (hr.mono (by decide)) (by rfl) (pa_cons pe_str (pa_cons (pv 1) pa_nil))) pe_str) (pe_h h_line_of (hr.mono (by decide)) (by rfl) (pa_cons pe_str (pa_cons (pe_op op_catA (pe_tup (pa_cons (pe_ix ix_tup (pv 2) pe_int (fun _ _ => rfl)) pa_nil)) (pe_ix ix_tup (pv 2) pe_int (fun _ _ => rfl))) pa_nil))))))))
abbrev s_lines_in : Stmt := topS 15
abbrev N_lines_in : List Str := ["bar", "row", "numbers"]
theorem sc_lines_in : FnScope N_lines_in ["bar"] (defScope s_lines_in) := ⟨rfl, rfl, rfl, by decide +kernel, rfl, by decide +kernel, by decide +kernel⟩
theorem ok_lines_in {f : Addr} {fd : FuncData} (F : Fun K "lines_in" "lines_in" s_lines_in f fd) (T : Tx mg) (h_row_line : Has P w K mg base "row_line" ["row"] 2 (sp_row_line K)) (h_line_of_l : Has P w K mg base "line_of" ["word", "numbers"] 1 (sp_line_of_l K)) (h_line_of : Has P w K mg base "line_of" ["word", "numbers"] 1 (sp_line_of K)) : FnOk P w K mg base CX0 3 f fd ["bar"] (sp_lines_in K) := by
  have sc := sc_lines_in
  refine F.ok sc (len_lines_in K) (fun cdv A outer s H vs Q E hr h => ⟨t_lines_in K, ?_, rd_lines_in h⟩)
  exact (pss_cons (ps_if (pt_cmpR op_eq (pe_ix ix_tup (pv 0) pe_int (fun _ _ => rfl)) pe_str (nomark _)) (pss_one (ps_ret (pe_lc (own := [("row", 1)]) (by rfl) sc.nd (pi_list (pe_ix ix_tup (pv 0) pe_int (fun _ _ => rfl))) (blkOk_by (own := [("row", 1)]) (N := N_lines_in) (sc := defScope s_lines_in) (by decide +kernel)) (fun _ _ _ _ _ => (pg_name (i := 1) sc.nd rfl (by first | exact .inl rfl | exact .inr rfl))) (fun _ _ _ _ _ => pts_nil) (fun _ _ _ _ _ => (pe_h h_row_line (hr.mono (by decide)) (by rfl) (pa_cons (pv 1) pa_nil)))))) pss_nil)
      (pss_cons (ps_if (pt_cmpR op_eq (pe_ix ix_tup (pv 0) pe_int (fun _ _ => rfl)) pe_str (nomark _)) (pss_one (ps_ret (pe_lc (own := [("numbers", 2)]) (by rfl) sc.nd (pi_list (pe_ix ix_tup (pv 0) pe_int (fun _ _ => rfl))) (blkOk_by (own := [("numbers", 2)]) (N := N_lines_in) (sc := defScope s_lines_in) (by decide +kernel)) (fun _ _ _ _ _ => (pg_name (i := 2) sc.nd rfl (by first | exact .inl rfl | exact .inr rfl))) (fun _ _ _ _ _ => pts_nil) (fun _ _ _ _ _ => (pe_h h_line_of_l (hr.mono (by decide)) (by rfl) (pa_cons pe_str (pa_cons (pv 2) pa_nil))))))) pss_nil)
      (pss_cons (ps_if (pt_cmpR op_eq (pe_ix ix_tup (pv 0) pe_int (fun _ _ => rfl)) pe_str (nomark _)) (pss_one (ps_ret (pe_lst (pa_cons (pe_h h_line_of_l (hr.mono (by decide)) (by rfl) (pa_cons pe_str (pa_cons (pe_ix ix_tup (pv 0) pe_int (fun _ _ => rfl)) pa_nil))) pa_nil)))) pss_nil)
      (pss_one (ps_ret (pe_lst (pa_cons (pe_h h_line_of (hr.mono (by decide)) (by rfl) (pa_cons (pe_ix ix_tup (pv 0) pe_int (fun _ _ => rfl)) (pa_cons (pe_tup (pa_cons (pe_ix ix_tup (pv 0) pe_int (fun _ _ => rfl)) pa_nil)) pa_nil))) pa_nil)))))))
abbrev s_show_bar : Stmt := topS 16
abbrev N_show_bar : List Str := ["bar", "lines"]
theorem sc_show_bar : FnScope N_show_bar ["bar"] (defScope s_show_bar) := ⟨rfl, rfl, rfl, by decide +kernel, rfl, by decide +kernel, by decide +kernel⟩
theorem ok_show_bar {f : Addr} {fd : FuncData} (F : Fun K "show_bar" "show_bar" s_show_bar f fd) (T : Tx mg) (h_line_of : Has P w K mg base "line_of" ["word", "numbers"] 1 (sp_line_of K)) (h_lines_in : Has P w K mg base "lines_in" ["bar"] 3 (sp_lines_in K)) : FnOk P w K mg base CX0 4 f fd ["bar"] (sp_show_bar K) := by
  have sc := sc_show_bar
  refine F.ok sc (len_show_bar K) (fun cdv A outer s H vs Q E hr h => ⟨t_show_bar K, ?_, rd_show_bar h⟩)
  exact (pss_cons (ps_set (i := 1) sc.nd rfl (.inl rfl) (pe_lst pa_nil))
      (pss_cons (ps_while PassesOwn.never (pt_cmpR op_eq (pe_ix ix_tup (pv 0) pe_int (fun _ _ => rfl)) pe_str (nomark _)) (pss_cons (ps_expr (pe_bm PySem.F.plainAttrs_list PySem.F.slot_list_append PySem.F.type_list_append mt_append (pv 1) (pa_cons (pe_h h_line_of (hr.mono (by decide)) (by rfl) (pa_cons pe_str (pa_cons (pe_ix ix_tup (pv 0) pe_int (fun _ _ => rfl)) pa_nil))) pa_nil)))
      (pss_one (ps_set (i := 0) sc.nd rfl (.inl rfl) (pe_ix ix_tup (pv 0) pe_int (fun _ _ => rfl))))))
      (pss_one (ps_ret (pe_join pe_str (pe_op op_cat (pv 1) (pe_h h_lines_in (hr.mono (by decide)) (by rfl) (pa_cons (pv 0) pa_nil))))))))
abbrev s_word_of : Stmt := topS 17
abbrev N_word_of : List Str := ["line"]
theorem sc_word_of : FnScope N_word_of ["line"] (defScope s_word_of) := ⟨rfl, rfl, rfl, by decide +kernel, rfl, by decide +kernel, by decide +kernel⟩
theorem ok_word_of {f : Addr} {fd : FuncData} (F : Fun K "word_of" "word_of" s_word_of f fd) (T : Tx mg) : FnOk P w K mg base CX0 1 f fd ["line"] (sp_word_of K) := by
  have sc := sc_word_of
  refine F.ok sc (len_word_of K) (fun cdv A outer s H vs Q E hr h => ⟨t_word_of K, ?_, rd_word_of h⟩)
  exact (pss_one (ps_ret (pe_ix ix_list (pe_split (pv 0) pe_str) pe_int (fun _ _ => rfl))))
abbrev s_some_in : Stmt := topS 18
abbrev N_some_in : List Str := ["words", "numbers"]
theorem sc_some_in : FnScope N_some_in ["words"] (defScope s_some_in) := ⟨rfl, rfl, rfl, by decide +kernel, rfl, by decide +kernel, by decide +kernel⟩
theorem ok_some_in {f : Addr} {fd : FuncData} (F : Fun K "some_in" "some_in" s_some_in f fd) (T : Tx mg) (h_rising_in : Has P w K mg base "rising_in" ["words"] 2 (sp_rising_in K)) : FnOk P w K mg base CX0 3 f fd ["words"] (sp_some_in K) := by
  have sc := sc_some_in
  refine F.ok sc (len_some_in K) (fun cdv A outer s H vs Q E hr h => ⟨t_some_in K, ?_, rd_some_in h⟩)
  exact (pss_cons (ps_set (i := 1) sc.nd rfl (.inl rfl) (pe_h h_rising_in (hr.mono (by decide)) (by rfl) (pa_cons (pv 0) pa_nil)))
      (pss_cons (ps_if (PW.pt (pw_or (pt_cmpR op_isN1 (pv 1) pe_non (nomark _)) (pw_or1 (PW.pt (pw_and (pt_cmpR (op_neD hr.units) (pv 1) (pe_lst pa_nil) (nomark _)) (pw_and1 (pt_cmpR o_lt (pe_ix ix_list (pv 1) pe_int (fun _ _ => rfl)) pe_int (nomark _)))))))) (pss_one (ps_ret pe_non)) pss_nil)
      (pss_one (ps_ret (pv 1)))))
abbrev s_cut_in : Stmt := topS 19
abbrev N_cut_in : List Str := ["words", "number", "face"]
theorem sc_cut_in : FnScope N_cut_in ["words"] (defScope s_cut_in) := ⟨rfl, rfl, rfl, by decide +kernel, rfl, by decide +kernel, by decide +kernel⟩
theorem ok_cut_in {f : Addr} {fd : FuncData} (F : Fun K "cut_in" "cut_in" s_cut_in f fd) (T : Tx mg) (h_place_in : Has P w K mg base "place_in" ["word"] 2 (sp_place_in K)) (h_face_in : Has P w K mg base "face_in" ["words"] 3 (sp_face_in K)) : FnOk P w K mg base CX0 4 f fd ["words"] (sp_cut_in K) := by
  have sc := sc_cut_in
  refine F.ok sc (len_cut_in K) (fun cdv A outer s H vs Q E hr h => ⟨t_cut_in K, ?_, rd_cut_in h⟩)
  exact (pss_cons (ps_if (pt_cmpR (op_eqN hr.units) (pv 0) (pe_lst pa_nil) (nomark _)) (pss_one (ps_ret pe_non)) pss_nil)
      (pss_cons (ps_set (i := 1) sc.nd rfl (.inl rfl) (pe_h h_place_in (hr.mono (by decide)) (by rfl) (pa_cons (pe_ix ix_list (pv 0) pe_int (fun _ _ => rfl)) pa_nil)))
      (pss_cons (ps_set (i := 2) sc.nd rfl (.inl rfl) (pe_h h_face_in (hr.mono (by decide)) (by rfl) (pa_cons (pe_slice sl_list (pv 0) (po_some pe_int) po_none) pa_nil)))
      (pss_cons (ps_if (PW.pt (pw_or (pt_cmpR op_isN1 (pv 1) pe_non (nomark _)) (pw_or1 (pt_cmpR op_isN1 (pv 2) pe_non (nomark _))))) (pss_one (ps_ret pe_non)) pss_nil)
      (pss_one (ps_ret (pe_tup (pa_cons (pv 1) (pa_cons (pv 2) pa_nil)))))))))
abbrev s_set_in : Stmt := topS 20
abbrev N_set_in : List Str := ["line", "words", "laid", "at", "cut"]
theorem sc_set_in : FnScope N_set_in ["line"] (defScope s_set_in) := ⟨rfl, rfl, rfl, by decide +kernel, rfl, by decide +kernel, by decide +kernel⟩
theorem ok_set_in {f : Addr} {fd : FuncData} (F : Fun K "set_in" "set_in" s_set_in f fd) (T : Tx mg) (h_some_in : Has P w K mg base "some_in" ["words"] 3 (sp_some_in K)) (h_cut_in : Has P w K mg base "cut_in" ["words"] 4 (sp_cut_in K)) : FnOk P w K mg base CX0 5 f fd ["line"] (sp_set_in K) := by
  have sc := sc_set_in
  refine F.ok sc (len_set_in K) (fun cdv A outer s H vs Q E hr h => ⟨t_set_in K, ?_, rd_set_in h⟩)
  exact (pss_cons (ps_set (i := 1) sc.nd rfl (.inl rfl) (pe_split (pv 0) pe_str))
      (pss_cons (ps_if (pt_cmpR op_eq (pe_ix ix_list (pv 1) pe_int (fun _ _ => rfl)) pe_str (nomark _)) (pss_cons (ps_set (i := 2) sc.nd rfl (.inl rfl) (pe_h h_some_in (hr.mono (by decide)) (by rfl) (pa_cons (pe_slice sl_list (pv 1) (po_some pe_int) po_none) pa_nil)))
      (pss_one (ps_ret (pe_ifExp (pt_cmpR op_isN1 (pv 2) pe_non (nomark _)) pe_non (pe_tup (pa_cons (pe_callTy cr_tuple (by rfl) T.b_tuple (by decide +kernel) (pa_cons (pv 2) pa_nil)) (pa_cons pe_non pa_nil))))))) pss_nil)
      (pss_cons (ps_if (PW.pt (pw_or (pt_cmpR op_ne (pe_ix ix_list (pv 1) pe_int (fun _ _ => rfl)) pe_str (nomark _)) (pw_or1 (pt_cmpR op_notIn_seq pe_str (pv 1) (by rfl))))) (pss_one (ps_ret pe_non)) pss_nil)
      (pss_cons (ps_set (i := 3) sc.nd rfl (.inl rfl) (pe_bm PySem.F.plainAttrs_list PySem.F.slot_list_index PySem.F.type_list_index mt_index (pv 1) (pa_cons pe_str pa_nil)))
      (pss_cons (ps_set (i := 2) sc.nd rfl (.inl rfl) (pe_h h_some_in (hr.mono (by decide)) (by rfl) (pa_cons (pe_slice sl_list (pv 1) (po_some pe_int) (po_some (pv 3))) pa_nil)))
      (pss_cons (ps_set (i := 4) sc.nd rfl (.inl rfl) (pe_h h_cut_in (hr.mono (by decide)) (by rfl) (pa_cons (pe_slice sl_list (pv 1) (po_some (pe_op o_add (pv 3) pe_int)) po_none) pa_nil)))
      (pss_cons (ps_if (PW.pt (pw_or (pt_cmpR op_isN1 (pv 2) pe_non (nomark _)) (pw_or1 (pt_cmpR op_isN1 (pv 4) pe_non (nomark _))))) (pss_one (ps_ret pe_non)) pss_nil)
      (pss_one (ps_ret (pe_tup (pa_cons (pe_callTy cr_tuple (by rfl) T.b_tuple (by decide +kernel) (pa_cons (pv 2) pa_nil)) (pa_cons (pv 4) pa_nil))))))))))))
abbrev s_even_in : Stmt := topS 21
abbrev N_even_in : List Str := ["line", "words"]
theorem sc_even_in : FnScope N_even_in ["line"] (defScope s_even_in) := ⟨rfl, rfl, rfl, by decide +kernel, rfl, by decide +kernel, by decide +kernel⟩
theorem ok_even_in {f : Addr} {fd : FuncData} (F : Fun K "even_in" "even_in" s_even_in f fd) (T : Tx mg) (h_some_in : Has P w K mg base "some_in" ["words"] 3 (sp_some_in K)) : FnOk P w K mg base CX0 4 f fd ["line"] (sp_even_in K) := by
  have sc := sc_even_in
  refine F.ok sc (len_even_in K) (fun cdv A outer s H vs Q E hr h => ⟨t_even_in K, ?_, rd_even_in h⟩)
  exact (pss_cons (ps_set (i := 1) sc.nd rfl (.inl rfl) (pe_split (pv 0) pe_str))
      (pss_cons (ps_if (pt_cmpR op_ne (pe_ix ix_list (pv 1) pe_int (fun _ _ => rfl)) pe_str (nomark _)) (pss_one (ps_ret pe_non)) pss_nil)
      (pss_one (ps_ret (pe_orN (pe_h h_some_in (hr.mono (by decide)) (by rfl) (pa_cons (pe_slice sl_list (pv 1) (po_some pe_int) po_none) pa_nil)) (pe_one pe_non))))))
abbrev s_many_read_e : Stmt := topS 22
abbrev N_many_read_e : List Str := ["lines", "at", "reading", "found", "k", "one"]
theorem sc_many_read_e : FnScope N_many_read_e ["lines", "at", "reading"] (defScope s_many_read_e) := ⟨rfl, rfl, rfl, by decide +kernel, rfl, by decide +kernel, by decide +kernel⟩
theorem ok_many_read_e {f : Addr} {fd : FuncData} (F : Fun K "many_read" "many_read" s_many_read_e f fd) (T : Tx mg) : FnOk P w K mg base CX0 6 f fd ["lines", "at", "reading"] (sp_many_read_e K P w mg base) := by
  have sc := sc_many_read_e
  refine F.ok sc (len_many_read_e K P w mg base) (fun cdv A outer s H vs Q E hr h => ⟨t_many_read_e K P w mg base, ?_, rd_many_read_e h⟩)
  exact (pss_cons (ps_set (i := 3) sc.nd rfl (.inl rfl) (pe_lst pa_nil))
      (pss_cons (ps_for PassesOwn.never rfl (pi_range2 (by rfl) T.b_range (pa_cons (pv 1) (pa_cons (pe_callB cr_len (by rfl) T.b_len (by decide +kernel) (pa_cons (pv 0) pa_nil)) pa_nil))) (pg_name (i := 4) sc.nd rfl (.inl rfl))
      (pss_cons (ps_set (i := 5) sc.nd rfl (.inl rfl) (pe_callF (k := 5) (hr.mono (by decide)) (i := 2) rfl (by first | exact Or.inl rfl | exact Or.inr (Or.inl rfl)) (pa_cons (pe_ix ix_list (pv 0) (pv 4) (fun _ _ => rfl)) pa_nil)))
      (pss_cons (ps_if (pt_cmpR op_isN1 (pv 5) pe_non (nomark _)) (pss_one ps_never) pss_nil)
      (pss_one (ps_expr (pe_bm PySem.F.plainAttrs_list PySem.F.slot_list_append PySem.F.type_list_append mt_append (pv 3) (pa_cons (pv 5) pa_nil)))))))
      (pss_one (ps_ret (pv 3)))))
abbrev s_many_read_s : Stmt := topS 22
abbrev N_many_read_s : List Str := ["lines", "at", "reading", "found", "k", "one"]
theorem sc_many_read_s : FnScope N_many_read_s ["lines", "at", "reading"] (defScope s_many_read_s) := ⟨rfl, rfl, rfl, by decide +kernel, rfl, by decide +kernel, by decide +kernel⟩
theorem ok_many_read_s {f : Addr} {fd : FuncData} (F : Fun K "many_read" "many_read" s_many_read_s f fd) (T : Tx mg) : FnOk P w K mg base CX0 6 f fd ["lines", "at", "reading"] (sp_many_read_s K P w mg base) := by
  have sc := sc_many_read_s
  refine F.ok sc (len_many_read_s K P w mg base) (fun cdv A outer s H vs Q E hr h => ⟨t_many_read_s K P w mg base, ?_, rd_many_read_s h⟩)
  exact (pss_cons (ps_set (i := 3) sc.nd rfl (.inl rfl) (pe_lst pa_nil))
      (pss_cons (ps_for PassesOwn.never rfl (pi_range2 (by rfl) T.b_range (pa_cons (pv 1) (pa_cons (pe_callB cr_len (by rfl) T.b_len (by decide +kernel) (pa_cons (pv 0) pa_nil)) pa_nil))) (pg_name (i := 4) sc.nd rfl (.inl rfl))
      (pss_cons (ps_set (i := 5) sc.nd rfl (.inl rfl) (pe_callF (k := 5) (hr.mono (by decide)) (i := 2) rfl (by first | exact Or.inl rfl | exact Or.inr (Or.inl rfl)) (pa_cons (pe_ix ix_list (pv 0) (pv 4) (fun _ _ => rfl)) pa_nil)))
      (pss_cons (ps_if (pt_cmpR op_isN1 (pv 5) pe_non (nomark _)) (pss_one ps_never) pss_nil)
      (pss_one (ps_expr (pe_bm PySem.F.plainAttrs_list PySem.F.slot_list_append PySem.F.type_list_append mt_append (pv 3) (pa_cons (pv 5) pa_nil)))))))
      (pss_one (ps_ret (pv 3)))))
abbrev s_lone_read : Stmt := topS 23
abbrev N_lone_read : List Str := ["lines", "at", "words", "found"]
theorem sc_lone_read : FnScope N_lone_read ["lines", "at"] (defScope s_lone_read) := ⟨rfl, rfl, rfl, by decide +kernel, rfl, by decide +kernel, by decide +kernel⟩
theorem ok_lone_read {f : Addr} {fd : FuncData} (F : Fun K "lone_read" "lone_read" s_lone_read f fd) (T : Tx mg) (h_some_in : Has P w K mg base "some_in" ["words"] 3 (sp_some_in K)) (h_place_in : Has P w K mg base "place_in" ["word"] 2 (sp_place_in K)) : FnOk P w K mg base CX0 4 f fd ["lines", "at"] (sp_lone_read K) := by
  have sc := sc_lone_read
  refine F.ok sc (len_lone_read K) (fun cdv A outer s H vs Q E hr h => ⟨t_lone_read K, ?_, rd_lone_read h⟩)
  exact (pss_cons (ps_set (i := 2) sc.nd rfl (.inl rfl) (pe_split (pe_ix ix_list (pv 0) (pv 1) (fun _ _ => rfl)) pe_str))
      (pss_cons (ps_set (i := 3) sc.nd rfl (.inl rfl) pe_non)
      (pss_cut (ps_if (pt_cmpR op_eq (pe_ix ix_list (pv 2) pe_int (fun _ _ => rfl)) pe_str (nomark _)) (pss_one (ps_set (i := 3) sc.nd rfl (.inl rfl) (pe_orN (pe_h h_some_in (hr.mono (by decide)) (by rfl) (pa_cons (pe_slice sl_list (pv 2) (po_some pe_int) po_none) pa_nil)) (pe_one pe_non)))) (pss_one (ps_if (pt_cmpR op_eq (pe_callB cr_len (by rfl) T.b_len (by decide +kernel) (pa_cons (pv 2) pa_nil)) pe_int (nomark _)) (pss_one (ps_set (i := 3) sc.nd rfl (.inl rfl) (pe_h h_place_in (hr.mono (by decide)) (by rfl) (pa_cons (pe_ix ix_list (pv 2) pe_int (fun _ _ => rfl)) pa_nil)))) pss_nil)))
      (pss_cons (ps_if (pt_cmpR op_isN1 (pv 3) pe_non (nomark _)) (pss_one ps_never) pss_nil)
      (pss_cons (ps_if (pt_cmpR o_lt (pe_op o_add (pv 1) pe_int) (pe_callB cr_len (by rfl) T.b_len (by decide +kernel) (pa_cons (pv 0) pa_nil)) (nomark _)) (pss_one ps_never) pss_nil)
      (pss_one (ps_ret (pe_tup (pa_cons (pe_ix ix_list (pv 2) pe_int (fun _ _ => rfl)) (pa_cons (pv 3) pa_nil))))))))))
abbrev s_inner_read : Stmt := topS 24
abbrev N_inner_read : List Str := ["lines", "at", "word"]
theorem sc_inner_read : FnScope N_inner_read ["lines", "at"] (defScope s_inner_read) := ⟨rfl, rfl, rfl, by decide +kernel, rfl, by decide +kernel, by decide +kernel⟩
theorem ok_inner_read {f : Addr} {fd : FuncData} (F : Fun K "inner_read" "inner_read" s_inner_read f fd) (T : Tx mg) (h_word_of : Has P w K mg base "word_of" ["line"] 1 (sp_word_of K)) (h_lone_read : Has P w K mg base "lone_read" ["lines", "at"] 4 (sp_lone_read K)) (h_many_read_e : Has P w K mg base "many_read" ["lines", "at", "reading"] 6 (sp_many_read_e K P w mg base)) (h_many_read_s : Has P w K mg base "many_read" ["lines", "at", "reading"] 6 (sp_many_read_s K P w mg base)) {f_even_in : Addr} (g_even_in : mg "even_in" = some (.ref f_even_in)) (h_even_in : Has P w K mg base "even_in" ["line"] 4 (sp_even_in K)) {f_set_in : Addr} (g_set_in : mg "set_in" = some (.ref f_set_in)) (h_set_in : Has P w K mg base "set_in" ["line"] 5 (sp_set_in K)) : FnOk P w K mg base CX0 7 f fd ["lines", "at"] (sp_inner_read K) := by
  have sc := sc_inner_read
  refine F.ok sc (len_inner_read K) (fun cdv A outer s H vs Q E hr h => ⟨t_inner_read K P w mg base f_even_in f_set_in, ?_, rd_inner_read (h_even_in.held g_even_in) (h_set_in.held g_set_in) h⟩)
  exact (pss_cons (ps_if (pt_cmpR op_eq (pv 1) (pe_callB cr_len (by rfl) T.b_len (by decide +kernel) (pa_cons (pv 0) pa_nil)) (nomark _)) (pss_one ps_never) pss_nil)
      (pss_cons (ps_set (i := 2) sc.nd rfl (.inl rfl) (pe_h h_word_of (hr.mono (by decide)) (by rfl) (pa_cons (pe_ix ix_list (pv 0) (pv 1) (fun _ _ => rfl)) pa_nil)))
      (pss_cons (ps_if (pt_cmpR op_in_seq (pv 2) (pe_tup (pa_cons pe_str (pa_cons pe_str (pa_cons pe_str pa_nil)))) (by rfl)) (pss_one (ps_ret (pe_h h_lone_read (hr.mono (by decide)) (by rfl) (pa_cons (pv 0) (pa_cons (pv 1) pa_nil))))) pss_nil)
      (pss_cons (ps_if (pt_cmpR op_eq (pv 2) pe_str (nomark _)) (pss_one (ps_ret (pe_tup (pa_cons pe_str (pa_cons (pe_h h_many_read_e (hr.mono (by decide)) (by rfl) (pa_cons (pv 0) (pa_cons (pv 1) (pa_cons (pe_glob (by rfl) g_even_in rfl) pa_nil)))) pa_nil))))) pss_nil)
      (pss_one (ps_ret (pe_tup (pa_cons pe_str (pa_cons (pe_h h_many_read_s (hr.mono (by decide)) (by rfl) (pa_cons (pv 0) (pa_cons (pv 1) (pa_cons (pe_glob (by rfl) g_set_in rfl) pa_nil)))) pa_nil)))))))))
abbrev s_read_bar : Stmt := topS 25
abbrev N_read_bar : List Str := ["text", "lines", "faces", "face", "bar"]
theorem sc_read_bar : FnScope N_read_bar ["text"] (defScope s_read_bar) := ⟨rfl, rfl, rfl, by decide +kernel, rfl, by decide +kernel, by decide +kernel⟩
theorem ok_read_bar {f : Addr} {fd : FuncData} (F : Fun K "read_bar" "read_bar" s_read_bar f fd) (T : Tx mg) (h_lines_of : Has P w K mg base "lines_of" ["text"] 1 (sp_lines_of K)) (h_word_of : Has P w K mg base "word_of" ["line"] 1 (sp_word_of K)) (h_face_in : Has P w K mg base "face_in" ["words"] 3 (sp_face_in K)) (h_inner_read : Has P w K mg base "inner_read" ["lines", "at"] 7 (sp_inner_read K)) : FnOk P w K mg base CX0 8 f fd ["text"] (sp_read_bar K) := by
  have sc := sc_read_bar
  refine F.ok sc (len_read_bar K) (fun cdv A outer s H vs Q E hr h => ⟨t_read_bar K, ?_, rd_read_bar h⟩)
  exact (pss_cons (ps_set (i := 1) sc.nd rfl (.inl rfl) (pe_h h_lines_of (hr.mono (by decide)) (by rfl) (pa_cons (pv 0) pa_nil)))
      (pss_cons (ps_set (i := 2) sc.nd rfl (.inl rfl) (pe_lst pa_nil))
      (pss_cons (ps_while PassesOwn.never (PW.pt (pw_and (pt_cmpR o_lt (pe_callB cr_len (by rfl) T.b_len (by decide +kernel) (pa_cons (pv 2) pa_nil)) (pe_callB cr_len (by rfl) T.b_len (by decide +kernel) (pa_cons (pv 1) pa_nil)) (nomark _)) (pw_and1 (pt_cmpR op_eq (pe_h h_word_of (hr.mono (by decide)) (by rfl) (pa_cons (pe_ix ix_list (pv 1) (pe_callB cr_len (by rfl) T.b_len (by decide +kernel) (pa_cons (pv 2) pa_nil)) (fun _ _ => rfl)) pa_nil)) pe_str (nomark _))))) (pss_cons (ps_set (i := 3) sc.nd rfl (.inl rfl) (pe_h h_face_in (hr.mono (by decide)) (by rfl) (pa_cons (pe_slice sl_list (pe_split (pe_ix ix_list (pv 1) (pe_callB cr_len (by rfl) T.b_len (by decide +kernel) (pa_cons (pv 2) pa_nil)) (fun _ _ => rfl)) pe_str) (po_some pe_int) po_none) pa_nil)))
      (pss_cons (ps_if (PW.pt (pw_or (pt_not (pt_tr (pv 3))) (pw_or1 (pt_cmpR op_eq (pe_callB cr_len (by rfl) T.b_len (by decide +kernel) (pa_cons (pv 2) pa_nil)) (pe_gI (by rfl) T.c_MOST_LINKS) (nomark _))))) (pss_one ps_never) pss_nil)
      (pss_one (ps_expr (pe_bm PySem.F.plainAttrs_list PySem.F.slot_list_append PySem.F.type_list_append mt_append (pv 2) (pa_cons (pv 3) pa_nil)))))))
      (pss_cons (ps_set (i := 4) sc.nd rfl (.inl rfl) (pe_h h_inner_read (hr.mono (by decide)) (by rfl) (pa_cons (pv 1) (pa_cons (pe_callB cr_len (by rfl) T.b_len (by decide +kernel) (pa_cons (pv 2) pa_nil)) pa_nil))))
      (pss_cons (ps_for PassesOwn.never rfl (pi_list (pe_revL (pv 2))) (pg_name (i := 3) sc.nd rfl (.inl rfl))
      (pss_one (ps_set (i := 4) sc.nd rfl (.inl rfl) (pe_tup (pa_cons pe_str (pa_cons (pv 3) (pa_cons (pv 4) pa_nil)))))))
      (pss_one (ps_ret (pv 4))))))))
abbrev s_lpen : Stmt := topS 27
abbrev N_lpen : List Str := ["_law_script"]
theorem sc_lpen : FnScope N_lpen ["_law_script"] (defScope s_lpen) := ⟨rfl, rfl, rfl, by decide +kernel, rfl, by decide +kernel, by decide +kernel⟩
theorem ok_lpen {f : Addr} {fd : FuncData} (F : Fun K "_law_pen" "_law_pen" s_lpen f fd) (T : Tx mg) : FnOk P w K mg base CX0 1 f fd ["_law_script"] (sp_lpen K) := by
  have sc := sc_lpen
  refine F.ok sc (len_lpen K) (fun cdv A outer s H vs Q E hr h => ⟨t_lpen K, ?_, rd_lpen h⟩)
  exact (pss_one (ps_ret (pe_lst (pa_cons (pv 0) (pa_cons pe_int (pa_cons pe_int pa_nil))))))
abbrev s_ldraw : Stmt := topS 28
abbrev N_ldraw : List Str := ["_law_pen_here", "_law_many", "_law_script", "_law_at", "_law_over", "_law_cell", "_law_number"]
theorem sc_ldraw : FnScope N_ldraw ["_law_pen_here", "_law_many"] (defScope s_ldraw) := ⟨rfl, rfl, rfl, by decide +kernel, rfl, by decide +kernel, by decide +kernel⟩
theorem ok_ldraw {f : Addr} {fd : FuncData} (F : Fun K "_law_draw" "_law_draw" s_ldraw f fd) (T : Tx mg) : FnOk P w K mg base CX0 1 f fd ["_law_pen_here", "_law_many"] (sp_ldraw K) := by
  have sc := sc_ldraw
  refine F.ok sc (len_ldraw K) (fun cdv A outer s H vs Q E hr h => ⟨t_ldraw K, ?_, rd_ldraw h⟩)
  exact (pss_cons (ps_asg (pv 0) (pg_unl rfl (pgs_cons (pg_name (i := 2) sc.nd rfl (.inl rfl)) (pgs_cons (pg_name (i := 3) sc.nd rfl (.inl rfl)) (pgs_cons (pg_name (i := 4) sc.nd rfl (.inl rfl)) pgs_nil)))))
      (pss_cons (ps_if (pt_cmpR o_gt (pv 4) pe_int (nomark _)) (pss_cons (ps_asg (pe_op o_div (pv 4) (pv 1)) (pg_sub (pv 0) pe_int set_list))
      (pss_one (ps_ret (pe_op o_mod (pv 4) (pv 1))))) pss_nil)
      (pss_cons (ps_asg (pe_op o_add (pv 3) pe_int) (pg_sub (pv 0) pe_int set_list))
      (pss_cons (ps_set (i := 5) sc.nd rfl (.inl rfl) (pe_op o_add (pe_op o_add (pe_op o_mul (pe_op o_mul pe_int (pv 3)) (pv 3)) (pe_op o_mul pe_int (pv 3))) pe_int))
      (pss_cut (ps_if (pt_cmpR o_gt (pe_callB cr_len (by rfl) T.b_len (by decide +kernel) (pa_cons (pv 2) pa_nil)) pe_int (nomark _)) (pss_one (ps_set (i := 5) sc.nd rfl (.inl rfl) (pe_ix ix_list (pv 2) (pe_op o_mod (pv 3) (pe_callB cr_len (by rfl) T.b_len (by decide +kernel) (pa_cons (pv 2) pa_nil))) (fun _ _ => rfl)))) pss_nil)
      (pss_cons (ps_if (PW.pt (pw_and (pt_cmpR o_lt (pv 3) (pe_callB cr_len (by rfl) T.b_len (by decide +kernel) (pa_cons (pv 2) pa_nil)) (nomark _)) (pw_and1 (pt_cmpR o_ge (pe_callB cr_abs (by rfl) T.b_abs (by decide +kernel) (pa_cons (pv 5) pa_nil)) (pe_op o_pow pe_int pe_int) (nomark _))))) (pss_cons (ps_asg (pe_op o_div (pe_callB cr_abs (by rfl) T.b_abs (by decide +kernel) (pa_cons (pv 5) pa_nil)) (pv 1)) (pg_sub (pv 0) pe_int set_list))
      (pss_one (ps_ret (pe_op o_mod (pe_callB cr_abs (by rfl) T.b_abs (by decide +kernel) (pa_cons (pv 5) pa_nil)) (pv 1))))) pss_nil)
      (pss_cons (ps_set (i := 6) sc.nd rfl (.inl rfl) (pe_op o_mod (pe_op o_mul (pe_op o_add (pe_op o_add (pe_op o_mod (pv 5) pe_int) (pe_op o_mul pe_int (pv 3))) pe_int) pe_int) pe_int))
      (pss_cons (ps_set (i := 6) sc.nd rfl (.inl rfl) (pe_op o_mod (pe_op o_add (pe_op o_add (pe_op o_mul (pv 6) (pv 6)) (pe_op o_mul pe_int (pv 3))) pe_int) pe_int))
      (pss_one (ps_ret (pe_op o_mod (pe_op o_div (pe_op o_mod (pe_op o_mul (pv 6) (pe_op o_add (pe_op o_mod (pv 6) pe_int) pe_int)) pe_int) pe_int) (pv 1))))))))))))
abbrev s_lpicked : Stmt := topS 29
abbrev N_lpicked : List Str := ["_law_pen_here", "_law_things", "_law_many", "_law_pool", "_law_found", "_law_k"]
theorem sc_lpicked : FnScope N_lpicked ["_law_pen_here", "_law_things", "_law_many"] (defScope s_lpicked) := ⟨rfl, rfl, rfl, by decide +kernel, rfl, by decide +kernel, by decide +kernel⟩
theorem ok_lpicked {f : Addr} {fd : FuncData} (F : Fun K "_law_picked" "_law_picked" s_lpicked f fd) (T : Tx mg) (h_ldraw : Has P w K mg base "_law_draw" ["_law_pen_here", "_law_many"] 1 (sp_ldraw K)) : FnOk P w K mg base CX0 2 f fd ["_law_pen_here", "_law_things", "_law_many"] (sp_lpicked K) := by
  have sc := sc_lpicked
  refine F.ok sc (len_lpicked K) (fun cdv A outer s H vs Q E hr h => ⟨t_lpicked K, ?_, rd_lpicked h⟩)
  exact (pss_cons (ps_set (i := 3) sc.nd rfl (.inl rfl) (pe_callTy cr_list (by rfl) T.b_list (by decide +kernel) (pa_cons (pv 1) pa_nil)))
      (pss_cons (ps_set (i := 4) sc.nd rfl (.inl rfl) (pe_lst pa_nil))
      (pss_cons (ps_for PassesOwn.never rfl (pi_range1 (by rfl) T.b_range (pa_cons (pv 2) pa_nil)) (pg_name (i := 5) sc.nd rfl (.inl rfl))
      (pss_one (ps_expr (pe_bm PySem.F.plainAttrs_list PySem.F.slot_list_append PySem.F.type_list_append mt_append (pv 4) (pa_cons (pe_bm PySem.F.plainAttrs_list PySem.F.slot_list_pop PySem.F.type_list_pop mt_popAt (pv 3) (pa_cons (pe_h h_ldraw (hr.mono (by decide)) (by rfl) (pa_cons (pv 0) (pa_cons (pe_callB cr_len (by rfl) T.b_len (by decide +kernel) (pa_cons (pv 3) pa_nil)) pa_nil))) pa_nil)) pa_nil)))))
      (pss_one (ps_ret (pv 4))))))
abbrev s_lpicked_t : Stmt := topS 29
abbrev N_lpicked_t : List Str := ["_law_pen_here", "_law_things", "_law_many", "_law_pool", "_law_found", "_law_k"]
theorem sc_lpicked_t : FnScope N_lpicked_t ["_law_pen_here", "_law_things", "_law_many"] (defScope s_lpicked_t) := ⟨rfl, rfl, rfl, by decide +kernel, rfl, by decide +kernel, by decide +kernel⟩
theorem ok_lpicked_t {f : Addr} {fd : FuncData} (F : Fun K "_law_picked" "_law_picked" s_lpicked_t f fd) (T : Tx mg) (h_ldraw : Has P w K mg base "_law_draw" ["_law_pen_here", "_law_many"] 1 (sp_ldraw K)) : FnOk P w K mg base CX0 2 f fd ["_law_pen_here", "_law_things", "_law_many"] (sp_lpicked_t K) := by
  have sc := sc_lpicked_t
  refine F.ok sc (len_lpicked_t K) (fun cdv A outer s H vs Q E hr h => ⟨t_lpicked_t K, ?_, rd_lpicked_t h⟩)
  exact (pss_cons (ps_set (i := 3) sc.nd rfl (.inl rfl) (pe_callTy cr_list (by rfl) T.b_list (by decide +kernel) (pa_cons (pv 1) pa_nil)))
      (pss_cons (ps_set (i := 4) sc.nd rfl (.inl rfl) (pe_lst pa_nil))
      (pss_cons (ps_for PassesOwn.never rfl (pi_range1 (by rfl) T.b_range (pa_cons (pv 2) pa_nil)) (pg_name (i := 5) sc.nd rfl (.inl rfl))
      (pss_one (ps_expr (pe_bm PySem.F.plainAttrs_list PySem.F.slot_list_append PySem.F.type_list_append mt_append (pv 4) (pa_cons (pe_bm PySem.F.plainAttrs_list PySem.F.slot_list_pop PySem.F.type_list_pop mt_popAt (pv 3) (pa_cons (pe_h h_ldraw (hr.mono (by decide)) (by rfl) (pa_cons (pv 0) (pa_cons (pe_callB cr_len (by rfl) T.b_len (by decide +kernel) (pa_cons (pv 3) pa_nil)) pa_nil))) pa_nil)) pa_nil)))))
      (pss_one (ps_ret (pv 4))))))
abbrev s_lpicked_r : Stmt := topS 29
abbrev N_lpicked_r : List Str := ["_law_pen_here", "_law_things", "_law_many", "_law_pool", "_law_found", "_law_k"]
theorem sc_lpicked_r : FnScope N_lpicked_r ["_law_pen_here", "_law_things", "_law_many"] (defScope s_lpicked_r) := ⟨rfl, rfl, rfl, by decide +kernel, rfl, by decide +kernel, by decide +kernel⟩
theorem ok_lpicked_r {f : Addr} {fd : FuncData} (F : Fun K "_law_picked" "_law_picked" s_lpicked_r f fd) (T : Tx mg) (h_ldraw : Has P w K mg base "_law_draw" ["_law_pen_here", "_law_many"] 1 (sp_ldraw K)) : FnOk P w K mg base CX0 2 f fd ["_law_pen_here", "_law_things", "_law_many"] (sp_lpicked_r K) := by
  have sc := sc_lpicked_r
  refine F.ok sc (len_lpicked_r K) (fun cdv A outer s H vs Q E hr h => ⟨t_lpicked_r K, ?_, rd_lpicked_r h⟩)
  exact (pss_cons (ps_set (i := 3) sc.nd rfl (.inl rfl) (pe_callTy cr_list (by rfl) T.b_list (by decide +kernel) (pa_cons (pv 1) pa_nil)))
      (pss_cons (ps_set (i := 4) sc.nd rfl (.inl rfl) (pe_lst pa_nil))
      (pss_cons (ps_for PassesOwn.never rfl (pi_range1 (by rfl) T.b_range (pa_cons (pv 2) pa_nil)) (pg_name (i := 5) sc.nd rfl (.inl rfl))
      (pss_one (ps_expr (pe_bm PySem.F.plainAttrs_list PySem.F.slot_list_append PySem.F.type_list_append mt_append (pv 4) (pa_cons (pe_bm PySem.F.plainAttrs_list PySem.F.slot_list_pop PySem.F.type_list_pop mt_popAt (pv 3) (pa_cons (pe_h h_ldraw (hr.mono (by decide)) (by rfl) (pa_cons (pv 0) (pa_cons (pe_callB cr_len (by rfl) T.b_len (by decide +kernel) (pa_cons (pv 3) pa_nil)) pa_nil))) pa_nil)) pa_nil)))))
      (pss_one (ps_ret (pv 4))))))
abbrev s_lcorners : Stmt := topS 30
abbrev N_lcorners : List Str := ["_law_pen_here", "_law_many", "_law_step", "_law_begins", "_law_first", "_law_found", "_law_k", "_law_corner"]
theorem sc_lcorners : FnScope N_lcorners ["_law_pen_here", "_law_many"] (defScope s_lcorners) := ⟨rfl, rfl, rfl, by decide +kernel, rfl, by decide +kernel, by decide +kernel⟩
theorem ok_lcorners {f : Addr} {fd : FuncData} (F : Fun K "_law_corners" "_law_corners" s_lcorners f fd) (T : Tx mg) (h_ldraw : Has P w K mg base "_law_draw" ["_law_pen_here", "_law_many"] 1 (sp_ldraw K)) : FnOk P w K mg base CX0 2 f fd ["_law_pen_here", "_law_many"] (sp_lcorners K) := by
  have sc := sc_lcorners
  refine F.ok sc (len_lcorners K) (fun cdv A outer s H vs Q E hr h => ⟨t_lcorners K, ?_, rd_lcorners h⟩)
  exact (pss_cons (ps_set (i := 2) sc.nd rfl (.inr rfl) (pe_ix ix_list (pe_lst (pa_cons pe_int (pa_cons pe_int (pa_cons pe_int (pa_cons (pe_op o_add (pe_op o_pow pe_int pe_int) pe_int) (pa_cons (pe_op o_pow pe_int pe_int) pa_nil)))))) (pe_h h_ldraw (hr.mono (by decide)) (by rfl) (pa_cons (pv 0) (pa_cons pe_int pa_nil))) (fun _ _ => rfl)))
      (pss_cons (ps_set (i := 3) sc.nd rfl (.inl rfl) (pe_lst (pa_cons pe_int (pa_cons pe_int (pa_cons (pe_op o_sub pe_int (pe_op o_mul (pv 2) (pe_h h_ldraw (hr.mono (by decide)) (by rfl) (pa_cons (pv 0) (pa_cons (pe_op o_add (pv 1) pe_int) pa_nil))))) (pa_cons (pe_op o_sub (pe_op o_sub (pe_op o_pow pe_int pe_int) pe_int) (pe_op o_mul (pv 2) (pe_op o_sub (pv 1) pe_int))) pa_nil))))))
      (pss_cons (ps_set (i := 4) sc.nd rfl (.inr rfl) (pe_ix ix_list (pv 3) (pe_h h_ldraw (hr.mono (by decide)) (by rfl) (pa_cons (pv 0) (pa_cons pe_int pa_nil))) (fun _ _ => rfl)))
      (pss_cons (ps_setLc (i := 5) (own := [("_law_k", 6)]) (by rfl) sc.nd rfl rfl (sw_true rfl rfl rfl (by decide +kernel)) (pi_range1 (by rfl) T.b_range (pa_cons (pv 1) pa_nil)) (blkOk_by (own := [("_law_k", 6)]) (N := N_lcorners) (sc := defScope s_lcorners) (by decide +kernel)) (fun _ _ _ _ _ => (pg_name (i := 6) sc.nd rfl (by first | exact .inl rfl | exact .inr rfl))) (fun _ _ _ _ _ => pts_nil) (fun _ _ _ _ _ => (pe_op o_add (pv 4) (pe_op o_mul (pv 2) (pv 6)))))
      (pss_cons (ps_if (pt_cmpR op_eq (pe_h h_ldraw (hr.mono (by decide)) (by rfl) (pa_cons (pv 0) (pa_cons pe_int pa_nil))) pe_int (nomark _)) (pss_one (ps_ret (pv 5))) pss_nil)
      (pss_one (ps_ret (pe_lc (own := [("_law_corner", 7)]) (by rfl) sc.nd (pi_list (pe_revL (pv 5))) (blkOk_by (own := [("_law_corner", 7)]) (N := N_lcorners) (sc := defScope s_lcorners) (by decide +kernel)) (fun _ _ _ _ _ => (pg_name (i := 7) sc.nd rfl (by first | exact .inl rfl | exact .inr rfl))) (fun _ _ _ _ _ => pts_nil) (fun _ _ _ _ _ => (pe_op o_sub pe_int (pv 7)))))))))))
abbrev s_ltwo : Stmt := topS 31
abbrev N_ltwo : List Str := ["_law_pen_here", "_law_n", "_law_shared_corners", "_law_names", "_law_rows"]
theorem sc_ltwo : FnScope N_ltwo ["_law_pen_here", "_law_n", "_law_shared_corners"] (defScope s_ltwo) := ⟨rfl, rfl, rfl, by decide +kernel, rfl, by decide +kernel, by decide +kernel⟩
theorem ok_ltwo {f : Addr} {fd : FuncData} (F : Fun K "_law_two" "_law_two" s_ltwo f fd) (T : Tx mg) (h_lcorners : Has P w K mg base "_law_corners" ["_law_pen_here", "_law_many"] 2 (sp_lcorners K)) (h_lpicked_t : Has P w K mg base "_law_picked" ["_law_pen_here", "_law_things", "_law_many"] 2 (sp_lpicked_t K)) : FnOk P w K mg base CX0 3 f fd ["_law_pen_here", "_law_n", "_law_shared_corners"] (sp_ltwo K) := by
  have sc := sc_ltwo
  refine F.ok sc (len_ltwo K) (fun cdv A outer s H vs Q E hr h => ⟨t_ltwo K, ?_, rd_ltwo h⟩)
  exact (pss_cons (ps_set (i := 3) sc.nd rfl (.inl rfl) (pe_h h_lcorners (hr.mono (by decide)) (by rfl) (pa_cons (pv 0) (pa_cons (pe_op o_mul pe_int (pv 1)) pa_nil))))
      (pss_cons (ps_set (i := 4) sc.nd rfl (.inl rfl) (pe_lst (pa_cons (pe_callTy cr_tuple (by rfl) T.b_tuple (by decide +kernel) (pa_cons (pe_slice sl_list (pv 3) po_none (po_some (pv 1))) pa_nil)) (pa_cons (pe_callTy cr_tuple (by rfl) T.b_tuple (by decide +kernel) (pa_cons (pe_op op_cat (pe_slice sl_list (pv 3) po_none (po_some (pv 2))) (pe_slice sl_list (pv 3) (po_some (pv 1)) (po_some (pe_op o_sub (pe_op o_mul pe_int (pv 1)) (pv 2))))) pa_nil)) pa_nil))))
      (pss_one (ps_ret (pe_callTy call_tupZ (by rfl) T.b_tuple (by decide +kernel) (pa_cons (pe_h h_lpicked_t (hr.mono (by decide)) (by rfl) (pa_cons (pv 0) (pa_cons (pv 4) (pa_cons pe_int pa_nil)))) pa_nil))))))
abbrev s_lrings : Stmt := topS 32
abbrev N_lrings : List Str := ["_law_pen_here", "_law_sizes", "_law_names", "_law_rings_here", "_law_first", "_law_size", "_law_ends", "_law_shape", "_law_sets_here", "_law_k", "_law_one", "_law_other", "_law_ring", "_law_piece"]
theorem sc_lrings : FnScope N_lrings ["_law_pen_here"] (defScope s_lrings) := ⟨rfl, rfl, rfl, by decide +kernel, rfl, by decide +kernel, by decide +kernel⟩
theorem ok_lrings {f : Addr} {fd : FuncData} (F : Fun K "_law_rings" "_law_rings" s_lrings f fd) (T : Tx mg) (h_ldraw : Has P w K mg base "_law_draw" ["_law_pen_here", "_law_many"] 1 (sp_ldraw K)) (h_lcorners : Has P w K mg base "_law_corners" ["_law_pen_here", "_law_many"] 2 (sp_lcorners K)) (h_lpicked_t : Has P w K mg base "_law_picked" ["_law_pen_here", "_law_things", "_law_many"] 2 (sp_lpicked_t K)) : FnOk P w K mg base CX0 3 f fd ["_law_pen_here"] (sp_lrings K) := by
  have sc := sc_lrings
  refine F.ok sc (len_lrings K) (fun cdv A outer s H vs Q E hr h => ⟨t_lrings K, ?_, rd_lrings h⟩)
  exact (pss_cons (ps_set (i := 1) sc.nd rfl (.inl rfl) (pe_lst (pa_cons (pe_op o_add pe_int (pe_h h_ldraw (hr.mono (by decide)) (by rfl) (pa_cons (pv 0) (pa_cons pe_int pa_nil)))) (pa_cons (pe_op o_add pe_int (pe_h h_ldraw (hr.mono (by decide)) (by rfl) (pa_cons (pv 0) (pa_cons pe_int pa_nil)))) pa_nil))))
      (pss_cons (ps_set (i := 2) sc.nd rfl (.inr rfl) (pe_h h_lcorners (hr.mono (by decide)) (by rfl) (pa_cons (pv 0) (pa_cons (pe_op o_add (pe_ix ix_list (pv 1) pe_int (fun _ _ => rfl)) (pe_ix ix_list (pv 1) pe_int (fun _ _ => rfl))) pa_nil))))
      (pss_cons (ps_set (i := 3) sc.nd rfl (.inl rfl) (pe_lst pa_nil))
      (pss_cons (ps_for PassesOwn.never rfl (pi_tup (pe_tup (pa_cons (pe_tup (pa_cons pe_int (pa_cons (pe_ix ix_list (pv 1) pe_int (fun _ _ => rfl)) pa_nil))) (pa_cons (pe_tup (pa_cons (pe_ix ix_list (pv 1) pe_int (fun _ _ => rfl)) (pa_cons (pe_ix ix_list (pv 1) pe_int (fun _ _ => rfl)) pa_nil))) pa_nil)))) (pg_tup rfl (pgs_cons (pg_name (i := 4) sc.nd rfl (.inr rfl)) (pgs_cons (pg_name (i := 5) sc.nd rfl (.inr rfl)) pgs_nil)))
      (pss_cons (ps_setLc (i := 6) (own := [("_law_k", 9)]) (by rfl) sc.nd rfl rfl (sw_true rfl rfl rfl (by decide +kernel)) (pi_range1 (by rfl) T.b_range (pa_cons (pv 5) pa_nil)) (blkOk_by (own := [("_law_k", 9)]) (N := N_lrings) (sc := defScope s_lrings) (by decide +kernel)) (fun _ _ _ _ _ => (pg_name (i := 9) sc.nd rfl (by first | exact .inl rfl | exact .inr rfl))) (fun _ _ _ _ _ => pts_nil) (fun _ _ _ _ _ => (pe_tup (pa_cons (pe_ix ix_list (pv 2) (pe_op o_add (pv 4) (pv 9)) (fun _ _ => rfl)) (pa_cons (pe_ix ix_list (pv 2) (pe_op o_add (pv 4) (pe_op o_mod (pe_op o_add (pv 9) pe_int) (pv 5))) (fun _ _ => rfl)) pa_nil)))))
      (pss_one (ps_expr (pe_bm PySem.F.plainAttrs_list PySem.F.slot_list_append PySem.F.type_list_append mt_append (pv 3) (pa_cons (pe_lc (own := [("_law_one", 10), ("_law_other", 11)]) (by rfl) sc.nd (pi_list (pv 6)) (blkOk_by (own := [("_law_one", 10), ("_law_other", 11)]) (N := N_lrings) (sc := defScope s_lrings) (by decide +kernel)) (fun _ _ _ _ _ => (pg_tup rfl (pgs_cons (pg_name (i := 10) sc.nd rfl (by first | exact .inl rfl | exact .inr rfl)) (pgs_cons (pg_name (i := 11) sc.nd rfl (by first | exact .inl rfl | exact .inr rfl)) pgs_nil)))) (fun _ _ _ _ _ => pts_nil) (fun _ _ _ _ _ => (pe_tup (pa_cons (pe_callB (cr_min2 rfl) (by rfl) T.b_min (by decide +kernel) (pa_cons (pv 10) (pa_cons (pv 11) pa_nil))) (pa_cons (pe_callB (cr_max2 rfl) (by rfl) T.b_max (by decide +kernel) (pa_cons (pv 10) (pa_cons (pv 11) pa_nil))) pa_nil))))) pa_nil))))))
      (pss_cons (ps_set (i := 7) sc.nd rfl (.inr rfl) (pe_callTy call_tupZ (by rfl) T.b_tuple (by decide +kernel) (pa_cons (pe_h h_lpicked_t (hr.mono (by decide)) (by rfl) (pa_cons (pv 0) (pa_cons (pe_op op_cat (pe_ix ix_list (pv 3) pe_int (fun _ _ => rfl)) (pe_ix ix_list (pv 3) pe_int (fun _ _ => rfl))) (pa_cons (pe_op o_add (pe_callB cr_len (by rfl) T.b_len (by decide +kernel) (pa_cons (pe_ix ix_list (pv 3) pe_int (fun _ _ => rfl)) pa_nil)) (pe_callB cr_len (by rfl) T.b_len (by decide +kernel) (pa_cons (pe_ix ix_list (pv 3) pe_int (fun _ _ => rfl)) pa_nil))) pa_nil)))) pa_nil)))
      (pss_cons (ps_setLc (i := 8) (own := [("_law_ring", 12)]) (by rfl) sc.nd rfl rfl (sw_true rfl rfl rfl (by decide +kernel)) (pi_list (pv 3)) (blkOk_by (own := [("_law_ring", 12)]) (N := N_lrings) (sc := defScope s_lrings) (by decide +kernel)) (fun _ _ _ _ _ => (pg_name (i := 12) sc.nd rfl (by first | exact .inl rfl | exact .inr rfl))) (fun _ _ _ _ _ => pts_nil) (fun _ _ _ _ _ => (pe_callB cr_sortedI (by rfl) T.b_sorted (by decide +kernel) (pa_cons (pe_lc (own := [("_law_piece", 13)]) (by rfl) sc.nd (pi_list (pv 12)) (blkOk_by (own := [("_law_piece", 13)]) (by kernel_rfl)) (fun _ _ _ _ _ => (pg_name (i := 13) sc.nd rfl (by first | exact .inl rfl | exact .inr rfl))) (fun _ _ _ _ _ => pts_nil) (fun _ _ _ _ _ => (pe_tidx (units65 hr) (pv 7) (pa_cons (pv 13) pa_nil)))) pa_nil))))
      (pss_one (ps_ret (pe_tup (pa_cons (pv 7) (pa_cons (pe_callB (cr_sortD hr.units) (by rfl) T.b_sorted (by decide +kernel) (pa_cons (pv 8) pa_nil)) pa_nil)))))))))))
abbrev s_lsimple : Stmt := topS 33
abbrev N_lsimple : List Str := ["_law_pen_here", "_law_n", "_law_met", "_law_shape", "_law_face_here", "_law_rows", "_law_menu", "_law_corner"]
theorem sc_lsimple : FnScope N_lsimple ["_law_pen_here", "_law_n"] (defScope s_lsimple) := ⟨rfl, rfl, rfl, by decide +kernel, rfl, by decide +kernel, by decide +kernel⟩
theorem ok_lsimple {f : Addr} {fd : FuncData} (F : Fun K "_law_simple" "_law_simple" s_lsimple f fd) (T : Tx mg) (h_ldraw : Has P w K mg base "_law_draw" ["_law_pen_here", "_law_many"] 1 (sp_ldraw K)) (h_ltwo : Has P w K mg base "_law_two" ["_law_pen_here", "_law_n", "_law_shared_corners"] 3 (sp_ltwo K)) (h_lpicked_r : Has P w K mg base "_law_picked" ["_law_pen_here", "_law_things", "_law_many"] 2 (sp_lpicked_r K)) : FnOk P w K mg base CX0 4 f fd ["_law_pen_here", "_law_n"] (sp_lsimple K) := by
  have sc := sc_lsimple
  refine F.ok sc (len_lsimple K) (fun cdv A outer s H vs Q E hr h => ⟨t_lsimple K, ?_, rd_lsimple h⟩)
  exact (pss_cons (ps_set (i := 2) sc.nd rfl (.inl rfl) (pe_op o_mul (pe_callTy cr_intB (by rfl) T.b_int (by decide +kernel) (pa_cons (pe_cmpR o_gt (pv 1) pe_int (nomark _)) pa_nil)) (pe_h h_ldraw (hr.mono (by decide)) (by rfl) (pa_cons (pv 0) (pa_cons pe_int pa_nil)))))
      (pss_cons (ps_set (i := 3) sc.nd rfl (.inr rfl) (pe_h h_ltwo (hr.mono (by decide)) (by rfl) (pa_cons (pv 0) (pa_cons (pv 1) (pa_cons (pv 2) pa_nil)))))
      (pss_cons (ps_set (i := 4) sc.nd rfl (.inl rfl) (pe_callTy cr_tuple (by rfl) T.b_tuple (by decide +kernel) (pa_cons (pe_lc (own := [("_law_corner", 7)]) (by rfl) sc.nd (pi_tup (pe_ix ix_tup (pv 3) pe_int (fun _ _ => rfl))) (blkOk_by (own := [("_law_corner", 7)]) (N := N_lsimple) (sc := defScope s_lsimple) (by decide +kernel)) (fun _ _ _ _ _ => (pg_name (i := 7) sc.nd rfl (by first | exact .inl rfl | exact .inr rfl))) (fun _ _ _ _ _ => (pts_one (pt_cmpR op_in_seq (pv 7) (pe_ix ix_tup (pv 3) pe_int (fun _ _ => rfl)) (by rfl)))) (fun _ _ _ _ _ => (pv 7))) pa_nil)))
      (pss_cons (ps_set (i := 5) sc.nd rfl (.inl rfl) (pe_lst (pa_cons (pe_tup (pa_cons (pe_tup pa_nil) (pa_cons pe_non pa_nil))) (pa_cons (pe_tup (pa_cons (pe_tup (pa_cons pe_int pa_nil)) (pa_cons (pe_tup (pa_cons pe_int (pa_cons (pv 4) pa_nil))) pa_nil))) (pa_cons (pe_tup (pa_cons (pe_tup (pa_cons pe_int pa_nil)) (pa_cons (pe_tup (pa_cons pe_int (pa_cons (pv 4) pa_nil))) pa_nil))) pa_nil)))))
      (pss_cons (ps_set (i := 6) sc.nd rfl (.inl rfl) (pe_lst (pa_cons (pe_tup (pa_cons pe_str (pa_cons (pe_lst (pa_cons (pe_h h_ldraw (hr.mono (by decide)) (by rfl) (pa_cons (pv 0) (pa_cons pe_int pa_nil))) pa_nil)) pa_nil))) (pa_cons (pe_tup (pa_cons pe_str (pa_cons (pe_h h_lpicked_r (hr.mono (by decide)) (by rfl) (pa_cons (pv 0) (pa_cons (pv 5) (pa_cons pe_int pa_nil)))) pa_nil))) (pa_cons (pe_tup (pa_cons pe_str (pa_cons pe_int pa_nil))) pa_nil)))))
      (pss_one (ps_ret (pe_tup (pa_cons (pv 3) (pa_cons (pe_ix ix_list (pv 6) (pe_h h_ldraw (hr.mono (by decide)) (by rfl) (pa_cons (pv 0) (pa_cons (pe_op o_sub pe_int (pv 2)) pa_nil))) (fun _ _ => rfl)) pa_nil))))))))))
abbrev s_lbarred : Stmt := topS 34
abbrev N_lbarred : List Str := ["_law_pen_here", "_law_way", "_law_shape", "_law_sets_here", "_law_bar_here", "_law_spare", "_law_lone", "_law_pieces", "_law_corner", "_law_piece"]
theorem sc_lbarred : FnScope N_lbarred ["_law_pen_here"] (defScope s_lbarred) := ⟨rfl, rfl, rfl, by decide +kernel, rfl, by decide +kernel, by decide +kernel⟩
theorem ok_lbarred {f : Addr} {fd : FuncData} (F : Fun K "_law_barred" "_law_barred" s_lbarred f fd) (T : Tx mg) (h_ldraw : Has P w K mg base "_law_draw" ["_law_pen_here", "_law_many"] 1 (sp_ldraw K)) (h_lrings : Has P w K mg base "_law_rings" ["_law_pen_here"] 3 (sp_lrings K)) (h_lsimple : Has P w K mg base "_law_simple" ["_law_pen_here", "_law_n"] 4 (sp_lsimple K)) (h_lpicked : Has P w K mg base "_law_picked" ["_law_pen_here", "_law_things", "_law_many"] 2 (sp_lpicked K)) : FnOk P w K mg base CX0 5 f fd ["_law_pen_here"] (sp_lbarred K) := by
  have sc := sc_lbarred
  refine F.ok sc (len_lbarred K) (fun cdv A outer s H vs Q E hr h => ⟨t_lbarred K, ?_, rd_lbarred h⟩)
  exact (pss_cons (ps_set (i := 1) sc.nd rfl (.inl rfl) (pe_h h_ldraw (hr.mono (by decide)) (by rfl) (pa_cons (pv 0) (pa_cons pe_int pa_nil))))
      (pss_cons (ps_if (pt_cmpR op_eq (pv 1) pe_int (nomark _)) (pss_cons (ps_asg (pe_h h_lrings (hr.mono (by decide)) (by rfl) (pa_cons (pv 0) pa_nil)) (pg_tup rfl (pgs_cons (pg_name (i := 2) sc.nd rfl (.inr rfl)) (pgs_cons (pg_name (i := 3) sc.nd rfl (.inl rfl)) pgs_nil))))
      (pss_one (ps_ret (pe_tup (pa_cons (pv 2) (pa_cons (pe_ix ix_list (pe_lst (pa_cons (pe_tup (pa_cons pe_str (pa_cons (pv 3) pa_nil))) (pa_cons (pe_tup (pa_cons pe_str (pa_cons (pe_ix ix_list (pv 3) (pe_h h_ldraw (hr.mono (by decide)) (by rfl) (pa_cons (pv 0) (pa_cons pe_int pa_nil))) (fun _ _ => rfl)) pa_nil))) pa_nil))) (pe_h h_ldraw (hr.mono (by decide)) (by rfl) (pa_cons (pv 0) (pa_cons pe_int pa_nil))) (fun _ _ => rfl)) pa_nil)))))) pss_nil)
      (pss_cons (ps_asg (pe_h h_lsimple (hr.mono (by decide)) (by rfl) (pa_cons (pv 0) (pa_cons (pe_op o_add pe_int (pe_h h_ldraw (hr.mono (by decide)) (by rfl) (pa_cons (pv 0) (pa_cons pe_int pa_nil)))) pa_nil))) (pg_tup rfl (pgs_cons (pg_name (i := 2) sc.nd rfl (.inr rfl)) (pgs_cons (pg_name (i := 4) sc.nd rfl (.inl rfl)) pgs_nil))))
      (pss_cons (ps_if (pt_cmpR op_eq (pv 1) pe_int (nomark _)) (pss_one (ps_ret (pe_tup (pa_cons (pv 2) (pa_cons (pv 4) pa_nil))))) pss_nil)
      (pss_cons (ps_set (i := 5) sc.nd rfl (.inl rfl) (pe_lst (pa_cons (pe_op o_sub pe_int (pe_op o_pow pe_int pe_int)) (pa_cons (pe_op o_sub (pe_op o_pow pe_int pe_int) pe_int) (pa_cons (pe_op o_add (pe_op o_pow pe_int pe_int) pe_int) (pa_cons (pe_op o_sub pe_int (pe_op o_pow pe_int pe_int)) (pa_cons pe_int pa_nil)))))))
      (pss_cons (ps_setLc (i := 5) (own := [("_law_corner", 8)]) (by rfl) sc.nd rfl rfl (sw_true rfl rfl rfl (by decide +kernel)) (pi_list (pv 5)) (blkOk_by (own := [("_law_corner", 8)]) (N := N_lbarred) (sc := defScope s_lbarred) (by decide +kernel)) (fun _ _ _ _ _ => (pg_name (i := 8) sc.nd rfl (by first | exact .inl rfl | exact .inr rfl))) (fun _ _ _ _ _ => (pts_one (pt_cmpR op_notIn_seq (pv 8) (pe_op op_catA (pe_ix ix_tup (pv 2) pe_int (fun _ _ => rfl)) (pe_ix ix_tup (pv 2) pe_int (fun _ _ => rfl))) (by rfl)))) (fun _ _ _ _ _ => (pv 8)))
      (pss_cons (ps_set (i := 6) sc.nd rfl (.inr rfl) (pe_h h_lpicked (hr.mono (by decide)) (by rfl) (pa_cons (pv 0) (pa_cons (pv 5) (pa_cons (pe_op o_add pe_int (pe_h h_ldraw (hr.mono (by decide)) (by rfl) (pa_cons (pv 0) (pa_cons (pe_op o_sub pe_int (pe_callB cr_len (by rfl) T.b_len (by decide +kernel) (pa_cons (pe_ix ix_tup (pv 2) pe_int (fun _ _ => rfl)) pa_nil))) pa_nil)))) pa_nil)))))
      (pss_cons (ps_set (i := 7) sc.nd rfl (.inl rfl) (pe_callTy call_tupZ (by rfl) T.b_tuple (by decide +kernel) (pa_cons (pe_lc (own := [("_law_piece", 9)]) (by rfl) sc.nd (pi_tup (pv 2)) (blkOk_by (own := [("_law_piece", 9)]) (N := N_lbarred) (sc := defScope s_lbarred) (by decide +kernel)) (fun _ _ _ _ _ => (pg_name (i := 9) sc.nd rfl (by first | exact .inl rfl | exact .inr rfl))) (fun _ _ _ _ _ => pts_nil) (fun _ _ _ _ _ => (pe_callTy cr_tuple (by rfl) T.b_tuple (by decide +kernel) (pa_cons (pe_callB cr_sortedI (by rfl) T.b_sorted (by decide +kernel) (pa_cons (pe_op op_cat (pe_callTy cr_list (by rfl) T.b_list (by decide +kernel) (pa_cons (pv 9) pa_nil)) (pv 6)) pa_nil)) pa_nil)))) pa_nil)))
      (pss_cons (ps_if (pt_cmpR op_eq (pe_h h_ldraw (hr.mono (by decide)) (by rfl) (pa_cons (pv 0) (pa_cons pe_int pa_nil))) pe_int (nomark _)) (pss_one (ps_ret (pe_tup (pa_cons (pv 7) (pa_cons (pe_tup (pa_cons pe_str (pa_cons (pe_callTy cr_tuple (by rfl) T.b_tuple (by decide +kernel) (pa_cons (pe_callB cr_sortedI (by rfl) T.b_sorted (by decide +kernel) (pa_cons (pv 6) pa_nil)) pa_nil)) (pa_cons (pv 4) pa_nil)))) pa_nil))))) pss_nil)
      (pss_cons (ps_for PassesOwn.never rfl (pi_list (pv 6)) (pg_name (i := 8) sc.nd rfl (.inl rfl))
      (pss_one (ps_set (i := 4) sc.nd rfl (.inl rfl) (pe_tup (pa_cons pe_str (pa_cons (pe_tup (pa_cons (pv 8) pa_nil)) (pa_cons (pv 4) pa_nil)))))))
      (pss_one (ps_ret (pe_tup (pa_cons (pv 7) (pa_cons (pv 4) pa_nil)))))))))))))))
abbrev s_lline : Stmt := topS 35
abbrev N_lline : List Str := ["_law_word", "_law_numbers_here", "_law_number"]
theorem sc_lline : FnScope N_lline ["_law_word", "_law_numbers_here"] (defScope s_lline) := ⟨rfl, rfl, rfl, by decide +kernel, rfl, by decide +kernel, by decide +kernel⟩
theorem ok_lline {f : Addr} {fd : FuncData} (F : Fun K "_law_line" "_law_line" s_lline f fd) (T : Tx mg) : FnOk P w K mg base CX0 1 f fd ["_law_word", "_law_numbers_here"] (sp_lline K) := by
  have sc := sc_lline
  refine F.ok sc (len_lline K) (fun cdv A outer s H vs Q E hr h => ⟨t_lline K, ?_, rd_lline h⟩)
  exact (pss_one (ps_ret (pe_join pe_str (pe_op op_cat (pe_lst (pa_cons (pv 0) pa_nil)) (pe_lc (own := [("_law_number", 2)]) (by rfl) sc.nd (pi_tup (pv 1)) (blkOk_by (own := [("_law_number", 2)]) (N := N_lline) (sc := defScope s_lline) (by decide +kernel)) (fun _ _ _ _ _ => (pg_name (i := 2) sc.nd rfl (by first | exact .inl rfl | exact .inr rfl))) (fun _ _ _ _ _ => pts_nil) (fun _ _ _ _ _ => (pe_callTy cr_str (by rfl) T.b_str (by decide +kernel) (pa_cons (pv 2) pa_nil))))))))
abbrev s_lline_l : Stmt := topS 35
abbrev N_lline_l : List Str := ["_law_word", "_law_numbers_here", "_law_number"]
theorem sc_lline_l : FnScope N_lline_l ["_law_word", "_law_numbers_here"] (defScope s_lline_l) := ⟨rfl, rfl, rfl, by decide +kernel, rfl, by decide +kernel, by decide +kernel⟩
theorem ok_lline_l {f : Addr} {fd : FuncData} (F : Fun K "_law_line" "_law_line" s_lline_l f fd) (T : Tx mg) : FnOk P w K mg base CX0 1 f fd ["_law_word", "_law_numbers_here"] (sp_lline_l K) := by
  have sc := sc_lline_l
  refine F.ok sc (len_lline_l K) (fun cdv A outer s H vs Q E hr h => ⟨t_lline_l K, ?_, rd_lline_l h⟩)
  exact (pss_one (ps_ret (pe_join pe_str (pe_op op_cat (pe_lst (pa_cons (pv 0) pa_nil)) (pe_lc (own := [("_law_number", 2)]) (by rfl) sc.nd (pi_list (pv 1)) (blkOk_by (own := [("_law_number", 2)]) (N := N_lline_l) (sc := defScope s_lline_l) (by decide +kernel)) (fun _ _ _ _ _ => (pg_name (i := 2) sc.nd rfl (by first | exact .inl rfl | exact .inr rfl))) (fun _ _ _ _ _ => pts_nil) (fun _ _ _ _ _ => (pe_callTy cr_str (by rfl) T.b_str (by decide +kernel) (pa_cons (pv 2) pa_nil))))))))
abbrev s_lfar : Stmt := topS 36
abbrev N_lfar : List Str := ["_law_pen_here", "_law_far_here"]
theorem sc_lfar : FnScope N_lfar ["_law_pen_here"] (defScope s_lfar) := ⟨rfl, rfl, rfl, by decide +kernel, rfl, by decide +kernel, by decide +kernel⟩
theorem ok_lfar {f : Addr} {fd : FuncData} (F : Fun K "_law_far" "_law_far" s_lfar f fd) (T : Tx mg) (h_ldraw : Has P w K mg base "_law_draw" ["_law_pen_here", "_law_many"] 1 (sp_ldraw K)) : FnOk P w K mg base CX0 2 f fd ["_law_pen_here"] (sp_lfar K) := by
  have sc := sc_lfar
  refine F.ok sc (len_lfar K) (fun cdv A outer s H vs Q E hr h => ⟨t_lfar K, ?_, rd_lfar h⟩)
  exact (pss_cons (ps_set (i := 1) sc.nd rfl (.inl rfl) (pe_op o_sub (pe_callTy cr_intS (by rfl) T.b_int (by decide +kernel) (pa_cons (pe_op o_muls pe_str (pe_op o_add pe_int (pe_h h_ldraw (hr.mono (by decide)) (by rfl) (pa_cons (pv 0) (pa_cons pe_int pa_nil))))) pa_nil)) (pe_h h_ldraw (hr.mono (by decide)) (by rfl) (pa_cons (pv 0) (pa_cons pe_int pa_nil)))))
      (pss_one (ps_ret (pe_ix ix_list (pe_lst (pa_cons (pe_h h_ldraw (hr.mono (by decide)) (by rfl) (pa_cons (pv 0) (pa_cons pe_int pa_nil))) (pa_cons (pe_h h_ldraw (hr.mono (by decide)) (by rfl) (pa_cons (pv 0) (pa_cons pe_int pa_nil))) (pa_cons (pv 1) (pa_cons (pe_op o_sub (pe_op o_pow pe_int pe_int) pe_int) pa_nil))))) (pe_h h_ldraw (hr.mono (by decide)) (by rfl) (pa_cons (pv 0) (pa_cons pe_int pa_nil))) (fun _ _ => rfl)))))
abbrev s_lface : Stmt := topS 37
abbrev N_lface : List Str := ["_law_pen_here", "_law_least", "_law_most", "_law_names", "_law_many"]
theorem sc_lface : FnScope N_lface ["_law_pen_here", "_law_least", "_law_most"] (defScope s_lface) := ⟨rfl, rfl, rfl, by decide +kernel, rfl, by decide +kernel, by decide +kernel⟩
theorem ok_lface {f : Addr} {fd : FuncData} (F : Fun K "_law_face" "_law_face" s_lface f fd) (T : Tx mg) (h_lcorners : Has P w K mg base "_law_corners" ["_law_pen_here", "_law_many"] 2 (sp_lcorners K)) (h_ldraw : Has P w K mg base "_law_draw" ["_law_pen_here", "_law_many"] 1 (sp_ldraw K)) (h_lpicked : Has P w K mg base "_law_picked" ["_law_pen_here", "_law_things", "_law_many"] 2 (sp_lpicked K)) : FnOk P w K mg base CX0 3 f fd ["_law_pen_here", "_law_least", "_law_most"] (sp_lface K) := by
  have sc := sc_lface
  refine F.ok sc (len_lface K) (fun cdv A outer s H vs Q E hr h => ⟨t_lface K, ?_, rd_lface h⟩)
  exact (pss_cons (ps_set (i := 3) sc.nd rfl (.inl rfl) (pe_h h_lcorners (hr.mono (by decide)) (by rfl) (pa_cons (pv 0) (pa_cons pe_int pa_nil))))
      (pss_cons (ps_set (i := 4) sc.nd rfl (.inl rfl) (pe_op o_add (pv 1) (pe_h h_ldraw (hr.mono (by decide)) (by rfl) (pa_cons (pv 0) (pa_cons (pe_op o_sub (pe_op o_add (pv 2) pe_int) (pv 1)) pa_nil)))))
      (pss_one (ps_ret (pe_callTy cr_tuple (by rfl) T.b_tuple (by decide +kernel) (pa_cons (pe_callB cr_sortedI (by rfl) T.b_sorted (by decide +kernel) (pa_cons (pe_h h_lpicked (hr.mono (by decide)) (by rfl) (pa_cons (pv 0) (pa_cons (pv 3) (pa_cons (pv 4) pa_nil)))) pa_nil)) pa_nil))))))
abbrev s_lnumbers : Stmt := topS 38
abbrev N_lnumbers : List Str := ["_law_pen_here", "_law_least", "_law_some", "_law_k"]
theorem sc_lnumbers : FnScope N_lnumbers ["_law_pen_here", "_law_least"] (defScope s_lnumbers) := ⟨rfl, rfl, rfl, by decide +kernel, rfl, by decide +kernel, by decide +kernel⟩
theorem ok_lnumbers {f : Addr} {fd : FuncData} (F : Fun K "_law_numbers" "_law_numbers" s_lnumbers f fd) (T : Tx mg) (h_ldraw : Has P w K mg base "_law_draw" ["_law_pen_here", "_law_many"] 1 (sp_ldraw K)) (h_lpicked : Has P w K mg base "_law_picked" ["_law_pen_here", "_law_things", "_law_many"] 2 (sp_lpicked K)) (h_lfar : Has P w K mg base "_law_far" ["_law_pen_here"] 2 (sp_lfar K)) : FnOk P w K mg base CX0 3 f fd ["_law_pen_here", "_law_least"] (sp_lnumbers K) := by
  have sc := sc_lnumbers
  refine F.ok sc (len_lnumbers K) (fun cdv A outer s H vs Q E hr h => ⟨t_lnumbers K, ?_, rd_lnumbers h⟩)
  exact (pss_cons (ps_set (i := 2) sc.nd rfl (.inl rfl) pe_dnewK)
      (pss_cons (ps_if (pt_cmpR op_eq (pe_h h_ldraw (hr.mono (by decide)) (by rfl) (pa_cons (pv 0) (pa_cons pe_int pa_nil))) pe_int (nomark _)) (pss_one (ps_ret (pe_callB cr_sortedI (by rfl) T.b_sorted (by decide +kernel) (pa_cons (pe_h h_lpicked (hr.mono (by decide)) (by rfl) (pa_cons (pv 0) (pa_cons (pe_listRg rfl (by rfl) T.b_list (prg_1 (by rfl) T.b_range pe_int)) (pa_cons (pe_op o_add pe_int (pe_h h_ldraw (hr.mono (by decide)) (by rfl) (pa_cons (pv 0) (pa_cons pe_int pa_nil)))) pa_nil)))) pa_nil)))) pss_nil)
      (pss_cons (ps_for PassesOwn.never rfl (pi_range1 (by rfl) T.b_range (pa_cons (pe_op o_add (pv 1) (pe_h h_ldraw (hr.mono (by decide)) (by rfl) (pa_cons (pv 0) (pa_cons pe_int pa_nil)))) pa_nil)) (pg_name (i := 3) sc.nd rfl (.inl rfl))
      (pss_one (ps_asg pe_bl (pg_sub (pv 2) (pe_h h_lfar (hr.mono (by decide)) (by rfl) (pa_cons (pv 0) pa_nil)) (set_dict (units1 hr))))))
      (pss_one (ps_ret (pe_callB (cr_sortDI rfl hr.units) (by rfl) T.b_sorted (by decide +kernel) (pa_cons (pv 2) pa_nil)))))))
abbrev s_lsets : Stmt := topS 39
abbrev N_lsets : List Str := ["_law_pen_here", "_law_rows", "_law_k", "_law_cut"]
theorem sc_lsets : FnScope N_lsets ["_law_pen_here"] (defScope s_lsets) := ⟨rfl, rfl, rfl, by decide +kernel, rfl, by decide +kernel, by decide +kernel⟩
theorem ok_lsets {f : Addr} {fd : FuncData} (F : Fun K "_law_sets" "_law_sets" s_lsets f fd) (T : Tx mg) (h_ldraw : Has P w K mg base "_law_draw" ["_law_pen_here", "_law_many"] 1 (sp_ldraw K)) (h_lfar : Has P w K mg base "_law_far" ["_law_pen_here"] 2 (sp_lfar K)) (h_lface : Has P w K mg base "_law_face" ["_law_pen_here", "_law_least", "_law_most"] 3 (sp_lface K)) (h_lnumbers : Has P w K mg base "_law_numbers" ["_law_pen_here", "_law_least"] 3 (sp_lnumbers K)) : FnOk P w K mg base CX0 4 f fd ["_law_pen_here"] (sp_lsets K) := by
  have sc := sc_lsets
  refine F.ok sc (len_lsets K) (fun cdv A outer s H vs Q E hr h => ⟨t_lsets K, ?_, rd_lsets h⟩)
  exact (pss_cons (ps_set (i := 1) sc.nd rfl (.inl rfl) (pe_lst pa_nil))
      (pss_cons (ps_for PassesOwn.never rfl (pi_range1 (by rfl) T.b_range (pa_cons (pe_op o_add pe_int (pe_h h_ldraw (hr.mono (by decide)) (by rfl) (pa_cons (pv 0) (pa_cons pe_int pa_nil)))) pa_nil)) (pg_name (i := 2) sc.nd rfl (.inl rfl))
      (pss_cons (ps_set (i := 3) sc.nd rfl (.inl rfl) pe_non)
      (pss_cut (ps_if (pt_cmpR op_eq (pe_h h_ldraw (hr.mono (by decide)) (by rfl) (pa_cons (pv 0) (pa_cons pe_int pa_nil))) pe_int (nomark _)) (pss_one (ps_set (i := 3) sc.nd rfl (.inl rfl) (pe_tup (pa_cons (pe_h h_lfar (hr.mono (by decide)) (by rfl) (pa_cons (pv 0) pa_nil)) (pa_cons (pe_h h_lface (hr.mono (by decide)) (by rfl) (pa_cons (pv 0) (pa_cons pe_int (pa_cons pe_int pa_nil)))) pa_nil))))) pss_nil)
      (pss_one (ps_expr (pe_bm PySem.F.plainAttrs_list PySem.F.slot_list_append PySem.F.type_list_append mt_append (pv 1) (pa_cons (pe_tup (pa_cons (pe_callTy cr_tuple (by rfl) T.b_tuple (by decide +kernel) (pa_cons (pe_h h_lnumbers (hr.mono (by decide)) (by rfl) (pa_cons (pv 0) (pa_cons pe_int pa_nil))) pa_nil)) (pa_cons (pv 3) pa_nil))) pa_nil)))))))
      (pss_one (ps_ret (pe_op op_cat (pv 1) (pe_slice sl_list (pv 1) po_none (po_some (pe_h h_ldraw (hr.mono (by decide)) (by rfl) (pa_cons (pv 0) (pa_cons pe_int pa_nil))))))))))
abbrev s_lbar : Stmt := topS 40
abbrev N_lbar : List Str := ["_law_pen_here", "_law_links", "_law_word", "_law_bar_here", "_law_k"]
theorem sc_lbar : FnScope N_lbar ["_law_pen_here", "_law_links"] (defScope s_lbar) := ⟨rfl, rfl, rfl, by decide +kernel, rfl, by decide +kernel, by decide +kernel⟩
theorem ok_lbar {f : Addr} {fd : FuncData} (F : Fun K "_law_bar" "_law_bar" s_lbar f fd) (T : Tx mg) (h_ldraw : Has P w K mg base "_law_draw" ["_law_pen_here", "_law_many"] 1 (sp_ldraw K)) (h_lfar : Has P w K mg base "_law_far" ["_law_pen_here"] 2 (sp_lfar K)) (h_lnumbers : Has P w K mg base "_law_numbers" ["_law_pen_here", "_law_least"] 3 (sp_lnumbers K)) (h_lsets : Has P w K mg base "_law_sets" ["_law_pen_here"] 4 (sp_lsets K)) (h_lface : Has P w K mg base "_law_face" ["_law_pen_here", "_law_least", "_law_most"] 3 (sp_lface K)) : FnOk P w K mg base CX0 5 f fd ["_law_pen_here", "_law_links"] (sp_lbar K) := by
  have sc := sc_lbar
  refine F.ok sc (len_lbar K) (fun cdv A outer s H vs Q E hr h => ⟨t_lbar K, ?_, rd_lbar h⟩)
  exact (pss_cons (ps_set (i := 2) sc.nd rfl (.inl rfl) (pe_ix ix_list (pe_lst (pa_cons pe_str (pa_cons pe_str (pa_cons pe_str (pa_cons pe_str (pa_cons pe_str (pa_cons pe_str pa_nil))))))) (pe_h h_ldraw (hr.mono (by decide)) (by rfl) (pa_cons (pv 0) (pa_cons pe_int pa_nil))) (fun _ _ => rfl)))
      (pss_cons (ps_set (i := 3) sc.nd rfl (.inl rfl) (pe_tup (pa_cons (pv 2) (pa_cons (pe_h h_lfar (hr.mono (by decide)) (by rfl) (pa_cons (pv 0) pa_nil)) pa_nil))))
      (pss_cut (ps_if (pt_cmpR op_eq (pv 2) pe_str (nomark _)) (pss_one (ps_set (i := 3) sc.nd rfl (.inl rfl) (pe_tup (pa_cons (pv 2) (pa_cons (pe_h h_lnumbers (hr.mono (by decide)) (by rfl) (pa_cons (pv 0) (pa_cons pe_int pa_nil))) pa_nil))))) pss_nil)
      (pss_cut (ps_if (pt_cmpR op_eq (pv 2) pe_str (nomark _)) (pss_one (ps_set (i := 3) sc.nd rfl (.inl rfl) (pe_tup (pa_cons (pv 2) (pa_cons (pe_lc (own := [("_law_k", 4)]) (by rfl) sc.nd (pi_range1 (by rfl) T.b_range (pa_cons (pe_op o_add pe_int (pe_h h_ldraw (hr.mono (by decide)) (by rfl) (pa_cons (pv 0) (pa_cons pe_int pa_nil)))) pa_nil)) (blkOk_by (own := [("_law_k", 4)]) (N := N_lbar) (sc := defScope s_lbar) (by decide +kernel)) (fun _ _ _ _ _ => (pg_name (i := 4) sc.nd rfl (by first | exact .inl rfl | exact .inr rfl))) (fun _ _ _ _ _ => pts_nil) (fun _ _ _ _ _ => (pe_h h_lnumbers (hr.mono (by decide)) (by rfl) (pa_cons (pv 0) (pa_cons pe_int pa_nil))))) pa_nil))))) pss_nil)
      (pss_cut (ps_if (pt_cmpR op_eq (pv 2) pe_str (nomark _)) (pss_one (ps_set (i := 3) sc.nd rfl (.inl rfl) (pe_tup (pa_cons (pv 2) (pa_cons (pe_h h_lsets (hr.mono (by decide)) (by rfl) (pa_cons (pv 0) pa_nil)) pa_nil))))) pss_nil)
      (pss_cons (ps_for PassesOwn.never rfl (pi_range1 (by rfl) T.b_range (pa_cons (pv 1) pa_nil)) (pg_name (i := 4) sc.nd rfl (.inl rfl))
      (pss_one (ps_set (i := 3) sc.nd rfl (.inl rfl) (pe_tup (pa_cons pe_str (pa_cons (pe_h h_lface (hr.mono (by decide)) (by rfl) (pa_cons (pv 0) (pa_cons pe_int (pa_cons pe_int pa_nil)))) (pa_cons (pv 3) pa_nil)))))))
      (pss_one (ps_ret (pv 3)))))))))
abbrev s_lbar_lines : Stmt := topS 41
abbrev N_lbar_lines : List Str := ["_law_bar_here", "_law_lines", "_law_laid", "_law_cut", "_law_numbers_here"]
theorem sc_lbar_lines : FnScope N_lbar_lines ["_law_bar_here"] (defScope s_lbar_lines) := ⟨rfl, rfl, rfl, by decide +kernel, rfl, by decide +kernel, by decide +kernel⟩
theorem ok_lbar_lines {f : Addr} {fd : FuncData} (F : Fun K "_law_bar_lines" "_law_bar_lines" s_lbar_lines f fd) (T : Tx mg) (h_lline : Has P w K mg base "_law_line" ["_law_word", "_law_numbers_here"] 1 (sp_lline K)) (h_lline_l : Has P w K mg base "_law_line" ["_law_word", "_law_numbers_here"] 1 (sp_lline_l K)) {d : Nat} (h_rec : Has P w K mg base "_law_bar_lines" ["_law_bar_here"] (2 + d) (sp_lbar_lines K d)) : FnOk P w K mg base CX0 (2 + d + 1) f fd ["_law_bar_here"] (sp_lbar_lines K (d + 1)) := by
  have sc := sc_lbar_lines
  refine F.ok sc (len_lbar_lines K (d + 1)) (fun cdv A outer s H vs Q E hr h => ⟨t_lbar_lines K (sp_lbar_lines K d), ?_, rd_lbar_lines h⟩)
  exact (pss_cons (ps_if (pt_cmpR op_eq (pe_ix ix_tup (pv 0) pe_int (fun _ _ => rfl)) pe_str (nomark _)) (pss_one (ps_ret (pe_op op_cat (pe_lst (pa_cons (pe_h h_lline (hr.mono (by omega)) (by rfl) (pa_cons pe_str (pa_cons (pe_ix ix_tup (pv 0) pe_int (fun _ _ => rfl)) pa_nil))) pa_nil)) (pe_h h_rec (hr.mono (by omega)) (by rfl) (pa_cons (pe_ix ix_tup (pv 0) pe_int (fun _ _ => rfl)) pa_nil))))) pss_nil)
      (pss_cons (ps_if (pt_cmpR op_eq (pe_ix ix_tup (pv 0) pe_int (fun _ _ => rfl)) pe_str (nomark _)) (pss_one (ps_ret (pe_lst (pa_cons (pe_h h_lline_l (hr.mono (by omega)) (by rfl) (pa_cons pe_str (pa_cons (pe_ix ix_tup (pv 0) pe_int (fun _ _ => rfl)) pa_nil))) pa_nil)))) pss_nil)
      (pss_cons (ps_if (pt_cmpR op_eq (pe_ix ix_tup (pv 0) pe_int (fun _ _ => rfl)) pe_str (nomark _)) (pss_one (ps_ret (pe_lc (own := [("_law_numbers_here", 4)]) (by rfl) sc.nd (pi_list (pe_ix ix_tup (pv 0) pe_int (fun _ _ => rfl))) (blkOk_by (own := [("_law_numbers_here", 4)]) (N := N_lbar_lines) (sc := defScope s_lbar_lines) (by decide +kernel)) (fun _ _ _ _ _ => (pg_name (i := 4) sc.nd rfl (by first | exact .inl rfl | exact .inr rfl))) (fun _ _ _ _ _ => pts_nil) (fun _ _ _ _ _ => (pe_h h_lline_l (hr.mono (by omega)) (by rfl) (pa_cons pe_str (pa_cons (pv 4) pa_nil))))))) pss_nil)
      (pss_cons (ps_if (pt_cmpR op_ne (pe_ix ix_tup (pv 0) pe_int (fun _ _ => rfl)) pe_str (nomark _)) (pss_one (ps_ret (pe_lst (pa_cons (pe_h h_lline (hr.mono (by omega)) (by rfl) (pa_cons (pe_ix ix_tup (pv 0) pe_int (fun _ _ => rfl)) (pa_cons (pe_tup (pa_cons (pe_ix ix_tup (pv 0) pe_int (fun _ _ => rfl)) pa_nil)) pa_nil))) pa_nil)))) pss_nil)
      (pss_cons (ps_set (i := 1) sc.nd rfl (.inl rfl) (pe_lst pa_nil))
      (pss_cons (ps_for PassesOwn.never rfl (pi_list (pe_ix ix_tup (pv 0) pe_int (fun _ _ => rfl))) (pg_tup rfl (pgs_cons (pg_name (i := 2) sc.nd rfl (.inl rfl)) (pgs_cons (pg_name (i := 3) sc.nd rfl (.inl rfl)) pgs_nil)))
      (pss_one (ps_if (pt_cmpR op_isN1 (pv 3) pe_non (nomark _)) (pss_one (ps_expr (pe_bm PySem.F.plainAttrs_list PySem.F.slot_list_append PySem.F.type_list_append mt_append (pv 1) (pa_cons (pe_h h_lline (hr.mono (by omega)) (by rfl) (pa_cons pe_str (pa_cons (pv 2) pa_nil))) pa_nil)))) (pss_one (ps_expr (pe_bm PySem.F.plainAttrs_list PySem.F.slot_list_append PySem.F.type_list_append mt_append (pv 1) (pa_cons (pe_op o_adds (pe_op o_adds (pe_h h_lline (hr.mono (by omega)) (by rfl) (pa_cons pe_str (pa_cons (pv 2) pa_nil))) pe_str) (pe_h h_lline (hr.mono (by omega)) (by rfl) (pa_cons pe_str (pa_cons (pe_op op_catA (pe_tup (pa_cons (pe_ix ix_tup (pv 3) pe_int (fun _ _ => rfl)) pa_nil)) (pe_ix ix_tup (pv 3) pe_int (fun _ _ => rfl))) pa_nil)))) pa_nil)))))))
      (pss_one (ps_ret (pv 1)))))))))
abbrev s_lright : Stmt := topS 42
abbrev N_lright : List Str := ["_law_bar_here", "_law_kept", "_law_due", "_law_text", "_law_found"]
theorem sc_lright : FnScope N_lright ["_law_bar_here"] (defScope s_lright) := ⟨rfl, rfl, rfl, by decide +kernel, rfl, by decide +kernel, by decide +kernel⟩
theorem ok_lright {f : Addr} {fd : FuncData} (F : Fun K "_law_right" "_law_right" s_lright f fd) (T : Tx mg) (SM : SMod base) (h_lbar_lines : Has P w K mg base "_law_bar_lines" ["_law_bar_here"] 8 (sp_lbar_lines K 6)) (h_show_bar : Has P w K mg base "show_bar" ["bar"] 4 (sp_show_bar K)) (h_read_bar : Has P w K mg base "read_bar" ["text"] 8 (sp_read_bar K)) : FnG P w K mg base 9 f fd ["_law_bar_here"] (sp_lright K) := by
  have sc := sc_lright
  refine okG F sc (len_lright K) (fun cdv A outer s H vs Q E hg hr h => ⟨t_lright K, ?_, rd_lright h⟩)
  exact (pss_cons (ps_set (i := 1) sc.nd rfl (.inl rfl) (pe_callB (call_reprT hg hr.units SM) (by rfl) T.b_repr (by decide +kernel) (pa_cons (pv 0) pa_nil)))
      (pss_cons (ps_set (i := 2) sc.nd rfl (.inl rfl) (pe_join pe_str (pe_h h_lbar_lines (hr.mono (by decide)) (by rfl) (pa_cons (pv 0) pa_nil))))
      (pss_cons (ps_set (i := 3) sc.nd rfl (.inl rfl) (pe_h h_show_bar (hr.mono (by decide)) (by rfl) (pa_cons (pv 0) pa_nil)))
      (pss_cons (ps_if (PW.pt (pw_or (pt_not (pt_val (pe_callB call_isi (by rfl) T.b_isinstance (by decide +kernel) (pa_cons (pv 3) (pa_cons (pe_bltn (v := .ty "str") (u := .type "str") (by rfl) T.b_str (by decide +kernel) rfl) pa_nil))))) (pw_or (pt_cmpR op_ne (pv 3) (pv 2) (nomark _)) (pw_or1 (pt_cmpR op_ne (pe_callB (call_reprT hg hr.units SM) (by rfl) T.b_repr (by decide +kernel) (pa_cons (pv 0) pa_nil)) (pv 1) (nomark _)))))) (pss_one (ps_ret pe_bl)) pss_nil)
      (pss_cons (ps_set (i := 4) sc.nd rfl (.inl rfl) (pe_h h_read_bar (hr.mono (by decide)) (by rfl) (pa_cons (pv 2) pa_nil)))
      (pss_cons (ps_if (PW.pt (pw_or (pt_cmpR op_ne (pe_callB (call_reprT hg hr.units SM) (by rfl) T.b_repr (by decide +kernel) (pa_cons (pv 4) pa_nil)) (pv 1) (nomark _)) (pw_or1 (pt_cmpR op_ne (pe_h h_show_bar (hr.mono (by decide)) (by rfl) (pa_cons (pv 4) pa_nil)) (pv 2) (nomark _))))) (pss_one (ps_ret pe_bl)) pss_nil)
      (pss_cons (ps_while PassesOwn.never (pt_cmpR op_eq (pe_ix ix_tup (pv 4) pe_int (fun _ _ => rfl)) pe_str (nomark _)) (pss_one (ps_set (i := 4) sc.nd rfl (.inl rfl) (pe_ix ix_tup (pv 4) pe_int (fun _ _ => rfl)))))
      (pss_cut (ps_if (pt_val (pe_callB call_isi (by rfl) T.b_isinstance (by decide +kernel) (pa_cons (pe_ix ix_tup (pv 4) pe_int (fun _ _ => rfl)) (pa_cons (pe_bltn (v := .ty "list") (u := .type "list") (by rfl) T.b_list (by decide +kernel) rfl) pa_nil)))) (pss_cons (ps_expr (pe_bm PySem.F.plainAttrs_list PySem.F.slot_list_append PySem.F.type_list_append mt_append (pe_ix ix_tup (pv 4) pe_int (fun _ _ => rfl)) (pa_cons (pe_ix ix_list (pe_ix ix_tup (pv 4) pe_int (fun _ _ => rfl)) pe_int (fun _ _ => rfl)) pa_nil)))
      (pss_one (ps_if (pt_cmpR op_eq (pe_ix ix_tup (pv 4) pe_int (fun _ _ => rfl)) pe_str (nomark _)) (pss_one (ps_expr (pe_bm PySem.F.plainAttrs_list PySem.F.slot_list_append PySem.F.type_list_append mt_append (pe_ix ix_list (pe_ix ix_tup (pv 4) pe_int (fun _ _ => rfl)) pe_int (fun _ _ => rfl)) (pa_cons pe_int pa_nil)))) pss_nil))) pss_nil)
      (pss_one (ps_ret (pe_cmpR op_eq (pe_callB (call_reprT hg hr.units SM) (by rfl) T.b_repr (by decide +kernel) (pa_cons (pe_h h_read_bar (hr.mono (by decide)) (by rfl) (pa_cons (pv 2) pa_nil)) pa_nil)) (pv 1) (nomark _))))))))))))
abbrev s_law : Stmt := topS 43
abbrev N_law : List Str := ["_law_script", "_law_pen_here", "_law_turn", "_law_links"]
theorem sc_law : FnScope N_law ["_law_script"] (defScope s_law) := ⟨rfl, rfl, rfl, by decide +kernel, rfl, by decide +kernel, by decide +kernel⟩
theorem ok_law {f : Addr} {fd : FuncData} (F : Fun K "law" "law" s_law f fd) (T : Tx mg) (h_lpen : Has P w K mg base "_law_pen" ["_law_script"] 1 (sp_lpen K)) (h_ldraw : Has P w K mg base "_law_draw" ["_law_pen_here", "_law_many"] 1 (sp_ldraw K)) (h_lbar : Has P w K mg base "_law_bar" ["_law_pen_here", "_law_links"] 5 (sp_lbar K)) (h_lright : HasG P w K mg base "_law_right" ["_law_bar_here"] 9 (sp_lright K)) (h_lbarred : Has P w K mg base "_law_barred" ["_law_pen_here"] 5 (sp_lbarred K)) (h_read_bar : Has P w K mg base "read_bar" ["text"] 8 (sp_read_bar K)) : FnG P w K mg base 10 f fd ["_law_script"] (sp_law K) := by
  have sc := sc_law
  refine okG F sc (len_law K) (fun cdv A outer s H vs Q E hg hr h => ⟨t_law K, ?_, rd_law h⟩)
  exact (pss_cons (ps_set (i := 1) sc.nd rfl (.inl rfl) (pe_h h_lpen (hr.mono (by decide)) (by rfl) (pa_cons (pv 0) pa_nil)))
      (pss_cons (ps_for PassesOwn.never rfl (pi_range1 (by rfl) T.b_range (pa_cons pe_int pa_nil)) (pg_name (i := 2) sc.nd rfl (.inl rfl))
      (pss_cons (ps_set (i := 3) sc.nd rfl (.inl rfl) (pe_ix ix_list (pe_lst (pa_cons pe_int (pa_cons pe_int (pa_cons pe_int (pa_cons (pe_h h_ldraw (hr.mono (by decide)) (by rfl) (pa_cons (pv 1) (pa_cons pe_int pa_nil))) pa_nil))))) (pe_h h_ldraw (hr.mono (by decide)) (by rfl) (pa_cons (pv 1) (pa_cons pe_int pa_nil))) (fun _ _ => rfl)))
      (pss_cons (ps_if (pt_not (pt_val (pe_g h_lright hg (hr.mono (by decide)) (by rfl) (pa_cons (pe_h h_lbar (hr.mono (by decide)) (by rfl) (pa_cons (pv 1) (pa_cons (pv 3) pa_nil))) pa_nil)))) (pss_one (ps_ret pe_bl)) pss_nil)
      (pss_one (ps_if (pt_not (pt_val (pe_g h_lright hg (hr.mono (by decide)) (by rfl) (pa_cons (pe_ix ix_tup (pe_h h_lbarred (hr.mono (by decide)) (by rfl) (pa_cons (pv 1) pa_nil)) pe_int (fun _ _ => rfl)) pa_nil)))) (pss_one (ps_ret pe_bl)) pss_nil)))))
      (pss_one (ps_ret (pe_and (pe_cmpR (op_eqD hr.units) (pe_h h_read_bar (hr.mono (by decide)) (by rfl) (pa_cons pe_str pa_nil)) (pe_tup (pa_cons pe_str (pa_cons (pe_lst (pa_cons (pe_tup (pa_cons (pe_tup pa_nil) (pa_cons pe_non pa_nil))) pa_nil)) pa_nil))) (nomark _)) (pe_one (pe_cmpR (op_eqD hr.units) (pe_h h_read_bar (hr.mono (by decide)) (by rfl) (pa_cons pe_str pa_nil)) (pe_tup (pa_cons pe_str (pa_cons (pe_lst (pa_cons (pe_tup (pa_cons (pe_tup pa_nil) (pa_cons (pe_tup (pa_cons pe_int (pa_cons (pe_tup pa_nil) pa_nil))) pa_nil))) pa_nil)) pa_nil))) (nomark _))))))))
end
theorem all_mk {l : PySem.W.OpenLaw} {w : World} {K : PySem.W.Frag} {h : Heap} {mg : Str → Option Value} {fa f0 f1 f2 f3 f4 f5 f6 f7 f8 f9 f10 f11 f12 f13 f14 f15 f16 f17 f18 f19 f20 f21 f22 f23 f24 f25 f26 f27 f28 f29 f30 f31 f32 f33 f34 f35 f36 f37 f38 f39 : Addr} (X : K.In h) (G : h.Ns mainGlobals mg) (hfa : mg "law" = some (.ref fa))
    {od0 an0 od1 an1 od2 an2 od3 an3 od4 an4 od5 an5 od6 an6 od7 an7 od8 an8 od9 an9 od10 an10 od11 an11 od12 an12 od13 an13 od14 an14 od15 an15 od16 an16 od17 an17 od18 an18 od19 an19 od20 an20 od21 an21 od22 an22 od23 an23 od24 an24 od25 an25 od26 an26 od27 an27 od28 an28 od29 an29 od30 an30 od31 an31 od32 an32 od33 an33 od34 an34 od35 an35 od36 an36 od37 an37 od38 an38 od39 an39 : Option Addr} {sl0 sl1 sl2 sl3 sl4 sl5 sl6 sl7 sl8 sl9 sl10 sl11 sl12 sl13 sl14 sl15 sl16 sl17 sl18 sl19 sl20 sl21 sl22 sl23 sl24 sl25 sl26 sl27 sl28 sl29 sl30 sl31 sl32 sl33 sl34 sl35 sl36 sl37 sl38 sl39 : Array (Option Value)} {oc0 kV0 dc0 pm0 cd0 ct0 oc1 kV1 dc1 pm1 cd1 ct1 oc2 kV2 dc2 pm2 cd2 ct2 oc3 kV3 dc3 pm3 cd3 ct3 oc4 kV4 dc4 pm4 cd4 ct4 oc5 kV5 dc5 pm5 cd5 ct5 oc6 kV6 dc6 pm6 cd6 ct6 oc7 kV7 dc7 pm7 cd7 ct7 oc8 kV8 dc8 pm8 cd8 ct8 oc9 kV9 dc9 pm9 cd9 ct9 oc10 kV10 dc10 pm10 cd10 ct10 oc11 kV11 dc11 pm11 cd11 ct11 oc12 kV12 dc12 pm12 cd12 ct12 oc13 kV13 dc13 pm13 cd13 ct13 oc14 kV14 dc14 pm14 cd14 ct14 oc15 kV15 dc15 pm15 cd15 ct15 oc16 kV16 dc16 pm16 cd16 ct16 oc17 kV17 dc17 pm17 cd17 ct17 oc18 kV18 dc18 pm18 cd18 ct18 oc19 kV19 dc19 pm19 cd19 ct19 oc20 kV20 dc20 pm20 cd20 ct20 oc21 kV21 dc21 pm21 cd21 ct21 oc22 kV22 dc22 pm22 cd22 ct22 oc23 kV23 dc23 pm23 cd23 ct23 oc24 kV24 dc24 pm24 cd24 ct24 oc25 kV25 dc25 pm25 cd25 ct25 oc26 kV26 dc26 pm26 cd26 ct26 oc27 kV27 dc27 pm27 cd27 ct27 oc28 kV28 dc28 pm28 cd28 ct28 oc29 kV29 dc29 pm29 cd29 ct29 oc30 kV30 dc30 pm30 cd30 ct30 oc31 kV31 dc31 pm31 cd31 ct31 oc32 kV32 dc32 pm32 cd32 ct32 oc33 kV33 dc33 pm33 cd33 ct33 oc34 kV34 dc34 pm34 cd34 ct34 oc35 kV35 dc35 pm35 cd35 ct35 oc36 kV36 dc36 pm36 cd36 ct36 oc37 kV37 dc37 pm37 cd37 ct37 oc38 kV38 dc38 pm38 cd38 ct38 oc39 kV39 dc39 pm39 cd39 ct39 : Value}
    (a0 : PySem.W.nsIn K mainGlobals "line_of" = some (some (.ref f0))) (l0 : K.lookup f0 = some ⟨oc0, od0, .func (PySem.W.fnOf "line_of" "line_of" (defArgs s_line_of) (defBody s_line_of) (defScope s_line_of) .none kV0 dc0 pm0 an0 cd0 ct0), sl0⟩) (c0 : PySem.W.codeIn K cd0 "line_of" = true) (k0 : PySem.W.keepIn K (.ref f0) = true)
    (a1 : PySem.W.nsIn K mainGlobals "line_of" = some (some (.ref f1))) (l1 : K.lookup f1 = some ⟨oc1, od1, .func (PySem.W.fnOf "line_of" "line_of" (defArgs s_line_of_l) (defBody s_line_of_l) (defScope s_line_of_l) .none kV1 dc1 pm1 an1 cd1 ct1), sl1⟩) (c1 : PySem.W.codeIn K cd1 "line_of" = true) (k1 : PySem.W.keepIn K (.ref f1) = true)
    (a2 : PySem.W.nsIn K mainGlobals "lines_of" = some (some (.ref f2))) (l2 : K.lookup f2 = some ⟨oc2, od2, .func (PySem.W.fnOf "lines_of" "lines_of" (defArgs s_lines_of) (defBody s_lines_of) (defScope s_lines_of) .none kV2 dc2 pm2 an2 cd2 ct2), sl2⟩) (c2 : PySem.W.codeIn K cd2 "lines_of" = true) (k2 : PySem.W.keepIn K (.ref f2) = true)
    (a3 : PySem.W.nsIn K mainGlobals "number_in" = some (some (.ref f3))) (l3 : K.lookup f3 = some ⟨oc3, od3, .func (PySem.W.fnOf "number_in" "number_in" (defArgs s_number_in) (defBody s_number_in) (defScope s_number_in) .none kV3 dc3 pm3 an3 cd3 ct3), sl3⟩) (c3 : PySem.W.codeIn K cd3 "number_in" = true) (k3 : PySem.W.keepIn K (.ref f3) = true)
    (a4 : PySem.W.nsIn K mainGlobals "rising_in" = some (some (.ref f4))) (l4 : K.lookup f4 = some ⟨oc4, od4, .func (PySem.W.fnOf "rising_in" "rising_in" (defArgs s_rising_in) (defBody s_rising_in) (defScope s_rising_in) .none kV4 dc4 pm4 an4 cd4 ct4), sl4⟩) (c4 : PySem.W.codeIn K cd4 "rising_in" = true) (k4 : PySem.W.keepIn K (.ref f4) = true)
    (a5 : PySem.W.nsIn K mainGlobals "face_in" = some (some (.ref f5))) (l5 : K.lookup f5 = some ⟨oc5, od5, .func (PySem.W.fnOf "face_in" "face_in" (defArgs s_face_in) (defBody s_face_in) (defScope s_face_in) .none kV5 dc5 pm5 an5 cd5 ct5), sl5⟩) (c5 : PySem.W.codeIn K cd5 "face_in" = true) (k5 : PySem.W.keepIn K (.ref f5) = true)
    (a6 : PySem.W.nsIn K mainGlobals "place_in" = some (some (.ref f6))) (l6 : K.lookup f6 = some ⟨oc6, od6, .func (PySem.W.fnOf "place_in" "place_in" (defArgs s_place_in) (defBody s_place_in) (defScope s_place_in) .none kV6 dc6 pm6 an6 cd6 ct6), sl6⟩) (c6 : PySem.W.codeIn K cd6 "place_in" = true) (k6 : PySem.W.keepIn K (.ref f6) = true)
    (a7 : PySem.W.nsIn K mainGlobals "row_line" = some (some (.ref f7))) (l7 : K.lookup f7 = some ⟨oc7, od7, .func (PySem.W.fnOf "row_line" "row_line" (defArgs s_row_line) (defBody s_row_line) (defScope s_row_line) .none kV7 dc7 pm7 an7 cd7 ct7), sl7⟩) (c7 : PySem.W.codeIn K cd7 "row_line" = true) (k7 : PySem.W.keepIn K (.ref f7) = true)
    (a8 : PySem.W.nsIn K mainGlobals "lines_in" = some (some (.ref f8))) (l8 : K.lookup f8 = some ⟨oc8, od8, .func (PySem.W.fnOf "lines_in" "lines_in" (defArgs s_lines_in) (defBody s_lines_in) (defScope s_lines_in) .none kV8 dc8 pm8 an8 cd8 ct8), sl8⟩) (c8 : PySem.W.codeIn K cd8 "lines_in" = true) (k8 : PySem.W.keepIn K (.ref f8) = true)
    (a9 : PySem.W.nsIn K mainGlobals "show_bar" = some (some (.ref f9))) (l9 : K.lookup f9 = some ⟨oc9, od9, .func (PySem.W.fnOf "show_bar" "show_bar" (defArgs s_show_bar) (defBody s_show_bar) (defScope s_show_bar) .none kV9 dc9 pm9 an9 cd9 ct9), sl9⟩) (c9 : PySem.W.codeIn K cd9 "show_bar" = true) (k9 : PySem.W.keepIn K (.ref f9) = true)
    (a10 : PySem.W.nsIn K mainGlobals "word_of" = some (some (.ref f10))) (l10 : K.lookup f10 = some ⟨oc10, od10, .func (PySem.W.fnOf "word_of" "word_of" (defArgs s_word_of) (defBody s_word_of) (defScope s_word_of) .none kV10 dc10 pm10 an10 cd10 ct10), sl10⟩) (c10 : PySem.W.codeIn K cd10 "word_of" = true) (k10 : PySem.W.keepIn K (.ref f10) = true)
    (a11 : PySem.W.nsIn K mainGlobals "some_in" = some (some (.ref f11))) (l11 : K.lookup f11 = some ⟨oc11, od11, .func (PySem.W.fnOf "some_in" "some_in" (defArgs s_some_in) (defBody s_some_in) (defScope s_some_in) .none kV11 dc11 pm11 an11 cd11 ct11), sl11⟩) (c11 : PySem.W.codeIn K cd11 "some_in" = true) (k11 : PySem.W.keepIn K (.ref f11) = true)
    (a12 : PySem.W.nsIn K mainGlobals "cut_in" = some (some (.ref f12))) (l12 : K.lookup f12 = some ⟨oc12, od12, .func (PySem.W.fnOf "cut_in" "cut_in" (defArgs s_cut_in) (defBody s_cut_in) (defScope s_cut_in) .none kV12 dc12 pm12 an12 cd12 ct12), sl12⟩) (c12 : PySem.W.codeIn K cd12 "cut_in" = true) (k12 : PySem.W.keepIn K (.ref f12) = true)
    (a13 : PySem.W.nsIn K mainGlobals "set_in" = some (some (.ref f13))) (l13 : K.lookup f13 = some ⟨oc13, od13, .func (PySem.W.fnOf "set_in" "set_in" (defArgs s_set_in) (defBody s_set_in) (defScope s_set_in) .none kV13 dc13 pm13 an13 cd13 ct13), sl13⟩) (c13 : PySem.W.codeIn K cd13 "set_in" = true) (k13 : PySem.W.keepIn K (.ref f13) = true)
    (a14 : PySem.W.nsIn K mainGlobals "even_in" = some (some (.ref f14))) (l14 : K.lookup f14 = some ⟨oc14, od14, .func (PySem.W.fnOf "even_in" "even_in" (defArgs s_even_in) (defBody s_even_in) (defScope s_even_in) .none kV14 dc14 pm14 an14 cd14 ct14), sl14⟩) (c14 : PySem.W.codeIn K cd14 "even_in" = true) (k14 : PySem.W.keepIn K (.ref f14) = true)
    (a15 : PySem.W.nsIn K mainGlobals "many_read" = some (some (.ref f15))) (l15 : K.lookup f15 = some ⟨oc15, od15, .func (PySem.W.fnOf "many_read" "many_read" (defArgs s_many_read_e) (defBody s_many_read_e) (defScope s_many_read_e) .none kV15 dc15 pm15 an15 cd15 ct15), sl15⟩) (c15 : PySem.W.codeIn K cd15 "many_read" = true) (k15 : PySem.W.keepIn K (.ref f15) = true)
    (a16 : PySem.W.nsIn K mainGlobals "many_read" = some (some (.ref f16))) (l16 : K.lookup f16 = some ⟨oc16, od16, .func (PySem.W.fnOf "many_read" "many_read" (defArgs s_many_read_s) (defBody s_many_read_s) (defScope s_many_read_s) .none kV16 dc16 pm16 an16 cd16 ct16), sl16⟩) (c16 : PySem.W.codeIn K cd16 "many_read" = true) (k16 : PySem.W.keepIn K (.ref f16) = true)
    (a17 : PySem.W.nsIn K mainGlobals "lone_read" = some (some (.ref f17))) (l17 : K.lookup f17 = some ⟨oc17, od17, .func (PySem.W.fnOf "lone_read" "lone_read" (defArgs s_lone_read) (defBody s_lone_read) (defScope s_lone_read) .none kV17 dc17 pm17 an17 cd17 ct17), sl17⟩) (c17 : PySem.W.codeIn K cd17 "lone_read" = true) (k17 : PySem.W.keepIn K (.ref f17) = true)
    (a18 : PySem.W.nsIn K mainGlobals "inner_read" = some (some (.ref f18))) (l18 : K.lookup f18 = some ⟨oc18, od18, .func (PySem.W.fnOf "inner_read" "inner_read" (defArgs s_inner_read) (defBody s_inner_read) (defScope s_inner_read) .none kV18 dc18 pm18 an18 cd18 ct18), sl18⟩) (c18 : PySem.W.codeIn K cd18 "inner_read" = true) (k18 : PySem.W.keepIn K (.ref f18) = true)
    (a19 : PySem.W.nsIn K mainGlobals "read_bar" = some (some (.ref f19))) (l19 : K.lookup f19 = some ⟨oc19, od19, .func (PySem.W.fnOf "read_bar" "read_bar" (defArgs s_read_bar) (defBody s_read_bar) (defScope s_read_bar) .none kV19 dc19 pm19 an19 cd19 ct19), sl19⟩) (c19 : PySem.W.codeIn K cd19 "read_bar" = true) (k19 : PySem.W.keepIn K (.ref f19) = true)
    (a20 : PySem.W.nsIn K mainGlobals "_law_pen" = some (some (.ref f20))) (l20 : K.lookup f20 = some ⟨oc20, od20, .func (PySem.W.fnOf "_law_pen" "_law_pen" (defArgs s_lpen) (defBody s_lpen) (defScope s_lpen) .none kV20 dc20 pm20 an20 cd20 ct20), sl20⟩) (c20 : PySem.W.codeIn K cd20 "_law_pen" = true) (k20 : PySem.W.keepIn K (.ref f20) = true)
    (a21 : PySem.W.nsIn K mainGlobals "_law_draw" = some (some (.ref f21))) (l21 : K.lookup f21 = some ⟨oc21, od21, .func (PySem.W.fnOf "_law_draw" "_law_draw" (defArgs s_ldraw) (defBody s_ldraw) (defScope s_ldraw) .none kV21 dc21 pm21 an21 cd21 ct21), sl21⟩) (c21 : PySem.W.codeIn K cd21 "_law_draw" = true) (k21 : PySem.W.keepIn K (.ref f21) = true)
    (a22 : PySem.W.nsIn K mainGlobals "_law_picked" = some (some (.ref f22))) (l22 : K.lookup f22 = some ⟨oc22, od22, .func (PySem.W.fnOf "_law_picked" "_law_picked" (defArgs s_lpicked) (defBody s_lpicked) (defScope s_lpicked) .none kV22 dc22 pm22 an22 cd22 ct22), sl22⟩) (c22 : PySem.W.codeIn K cd22 "_law_picked" = true) (k22 : PySem.W.keepIn K (.ref f22) = true)
    (a23 : PySem.W.nsIn K mainGlobals "_law_picked" = some (some (.ref f23))) (l23 : K.lookup f23 = some ⟨oc23, od23, .func (PySem.W.fnOf "_law_picked" "_law_picked" (defArgs s_lpicked_t) (defBody s_lpicked_t) (defScope s_lpicked_t) .none kV23 dc23 pm23 an23 cd23 ct23), sl23⟩) (c23 : PySem.W.codeIn K cd23 "_law_picked" = true) (k23 : PySem.W.keepIn K (.ref f23) = true)
    (a24 : PySem.W.nsIn K mainGlobals "_law_picked" = some (some (.ref f24))) (l24 : K.lookup f24 = some ⟨oc24, od24, .func (PySem.W.fnOf "_law_picked" "_law_picked" (defArgs s_lpicked_r) (defBody s_lpicked_r) (defScope s_lpicked_r) .none kV24 dc24 pm24 an24 cd24 ct24), sl24⟩) (c24 : PySem.W.codeIn K cd24 "_law_picked" = true) (k24 : PySem.W.keepIn K (.ref f24) = true)
    (a25 : PySem.W.nsIn K mainGlobals "_law_corners" = some (some (.ref f25))) (l25 : K.lookup f25 = some ⟨oc25, od25, .func (PySem.W.fnOf "_law_corners" "_law_corners" (defArgs s_lcorners) (defBody s_lcorners) (defScope s_lcorners) .none kV25 dc25 pm25 an25 cd25 ct25), sl25⟩) (c25 : PySem.W.codeIn K cd25 "_law_corners" = true) (k25 : PySem.W.keepIn K (.ref f25) = true)
    (a26 : PySem.W.nsIn K mainGlobals "_law_two" = some (some (.ref f26))) (l26 : K.lookup f26 = some ⟨oc26, od26, .func (PySem.W.fnOf "_law_two" "_law_two" (defArgs s_ltwo) (defBody s_ltwo) (defScope s_ltwo) .none kV26 dc26 pm26 an26 cd26 ct26), sl26⟩) (c26 : PySem.W.codeIn K cd26 "_law_two" = true) (k26 : PySem.W.keepIn K (.ref f26) = true)
    (a27 : PySem.W.nsIn K mainGlobals "_law_rings" = some (some (.ref f27))) (l27 : K.lookup f27 = some ⟨oc27, od27, .func (PySem.W.fnOf "_law_rings" "_law_rings" (defArgs s_lrings) (defBody s_lrings) (defScope s_lrings) .none kV27 dc27 pm27 an27 cd27 ct27), sl27⟩) (c27 : PySem.W.codeIn K cd27 "_law_rings" = true) (k27 : PySem.W.keepIn K (.ref f27) = true)
    (a28 : PySem.W.nsIn K mainGlobals "_law_simple" = some (some (.ref f28))) (l28 : K.lookup f28 = some ⟨oc28, od28, .func (PySem.W.fnOf "_law_simple" "_law_simple" (defArgs s_lsimple) (defBody s_lsimple) (defScope s_lsimple) .none kV28 dc28 pm28 an28 cd28 ct28), sl28⟩) (c28 : PySem.W.codeIn K cd28 "_law_simple" = true) (k28 : PySem.W.keepIn K (.ref f28) = true)
    (a29 : PySem.W.nsIn K mainGlobals "_law_barred" = some (some (.ref f29))) (l29 : K.lookup f29 = some ⟨oc29, od29, .func (PySem.W.fnOf "_law_barred" "_law_barred" (defArgs s_lbarred) (defBody s_lbarred) (defScope s_lbarred) .none kV29 dc29 pm29 an29 cd29 ct29), sl29⟩) (c29 : PySem.W.codeIn K cd29 "_law_barred" = true) (k29 : PySem.W.keepIn K (.ref f29) = true)
    (a30 : PySem.W.nsIn K mainGlobals "_law_line" = some (some (.ref f30))) (l30 : K.lookup f30 = some ⟨oc30, od30, .func (PySem.W.fnOf "_law_line" "_law_line" (defArgs s_lline) (defBody s_lline) (defScope s_lline) .none kV30 dc30 pm30 an30 cd30 ct30), sl30⟩) (c30 : PySem.W.codeIn K cd30 "_law_line" = true) (k30 : PySem.W.keepIn K (.ref f30) = true)
    (a31 : PySem.W.nsIn K mainGlobals "_law_line" = some (some (.ref f31))) (l31 : K.lookup f31 = some ⟨oc31, od31, .func (PySem.W.fnOf "_law_line" "_law_line" (defArgs s_lline_l) (defBody s_lline_l) (defScope s_lline_l) .none kV31 dc31 pm31 an31 cd31 ct31), sl31⟩) (c31 : PySem.W.codeIn K cd31 "_law_line" = true) (k31 : PySem.W.keepIn K (.ref f31) = true)
    (a32 : PySem.W.nsIn K mainGlobals "_law_far" = some (some (.ref f32))) (l32 : K.lookup f32 = some ⟨oc32, od32, .func (PySem.W.fnOf "_law_far" "_law_far" (defArgs s_lfar) (defBody s_lfar) (defScope s_lfar) .none kV32 dc32 pm32 an32 cd32 ct32), sl32⟩) (c32 : PySem.W.codeIn K cd32 "_law_far" = true) (k32 : PySem.W.keepIn K (.ref f32) = true)
    (a33 : PySem.W.nsIn K mainGlobals "_law_face" = some (some (.ref f33))) (l33 : K.lookup f33 = some ⟨oc33, od33, .func (PySem.W.fnOf "_law_face" "_law_face" (defArgs s_lface) (defBody s_lface) (defScope s_lface) .none kV33 dc33 pm33 an33 cd33 ct33), sl33⟩) (c33 : PySem.W.codeIn K cd33 "_law_face" = true) (k33 : PySem.W.keepIn K (.ref f33) = true)
    (a34 : PySem.W.nsIn K mainGlobals "_law_numbers" = some (some (.ref f34))) (l34 : K.lookup f34 = some ⟨oc34, od34, .func (PySem.W.fnOf "_law_numbers" "_law_numbers" (defArgs s_lnumbers) (defBody s_lnumbers) (defScope s_lnumbers) .none kV34 dc34 pm34 an34 cd34 ct34), sl34⟩) (c34 : PySem.W.codeIn K cd34 "_law_numbers" = true) (k34 : PySem.W.keepIn K (.ref f34) = true)
    (a35 : PySem.W.nsIn K mainGlobals "_law_sets" = some (some (.ref f35))) (l35 : K.lookup f35 = some ⟨oc35, od35, .func (PySem.W.fnOf "_law_sets" "_law_sets" (defArgs s_lsets) (defBody s_lsets) (defScope s_lsets) .none kV35 dc35 pm35 an35 cd35 ct35), sl35⟩) (c35 : PySem.W.codeIn K cd35 "_law_sets" = true) (k35 : PySem.W.keepIn K (.ref f35) = true)
    (a36 : PySem.W.nsIn K mainGlobals "_law_bar" = some (some (.ref f36))) (l36 : K.lookup f36 = some ⟨oc36, od36, .func (PySem.W.fnOf "_law_bar" "_law_bar" (defArgs s_lbar) (defBody s_lbar) (defScope s_lbar) .none kV36 dc36 pm36 an36 cd36 ct36), sl36⟩) (c36 : PySem.W.codeIn K cd36 "_law_bar" = true) (k36 : PySem.W.keepIn K (.ref f36) = true)
    (a37 : PySem.W.nsIn K mainGlobals "_law_bar_lines" = some (some (.ref f37))) (l37 : K.lookup f37 = some ⟨oc37, od37, .func (PySem.W.fnOf "_law_bar_lines" "_law_bar_lines" (defArgs s_lbar_lines) (defBody s_lbar_lines) (defScope s_lbar_lines) .none kV37 dc37 pm37 an37 cd37 ct37), sl37⟩) (c37 : PySem.W.codeIn K cd37 "_law_bar_lines" = true) (k37 : PySem.W.keepIn K (.ref f37) = true)
    (a38 : PySem.W.nsIn K mainGlobals "_law_right" = some (some (.ref f38))) (l38 : K.lookup f38 = some ⟨oc38, od38, .func (PySem.W.fnOf "_law_right" "_law_right" (defArgs s_lright) (defBody s_lright) (defScope s_lright) .none kV38 dc38 pm38 an38 cd38 ct38), sl38⟩) (c38 : PySem.W.codeIn K cd38 "_law_right" = true) (k38 : PySem.W.keepIn K (.ref f38) = true)
    (a39 : PySem.W.nsIn K mainGlobals "law" = some (some (.ref f39))) (l39 : K.lookup f39 = some ⟨oc39, od39, .func (PySem.W.fnOf "law" "law" (defArgs s_law) (defBody s_law) (defScope s_law) .none kV39 dc39 pm39 an39 cd39 ct39), sl39⟩) (c39 : PySem.W.codeIn K cd39 "law" = true) (k39 : PySem.W.keepIn K (.ref f39) = true)
    (z0 : PySem.W.nsIn K mainGlobals "str" = some none)
    (z1 : PySem.W.nsIn K mainGlobals "isinstance" = some none)
    (z2 : PySem.W.nsIn K mainGlobals "int" = some none)
    (z3 : PySem.W.nsIn K mainGlobals "len" = some none)
    (z4 : PySem.W.nsIn K mainGlobals "all" = some none)
    (z5 : PySem.W.nsIn K mainGlobals "range" = some none)
    (z6 : PySem.W.nsIn K mainGlobals "tuple" = some none)
    (z7 : PySem.W.nsIn K mainGlobals "abs" = some none)
    (z8 : PySem.W.nsIn K mainGlobals "list" = some none)
    (z9 : PySem.W.nsIn K mainGlobals "min" = some none)
    (z10 : PySem.W.nsIn K mainGlobals "max" = some none)
    (z11 : PySem.W.nsIn K mainGlobals "sorted" = some none)
    (z12 : PySem.W.nsIn K mainGlobals "repr" = some none)
    (y0 : ∃ t, PySem.W.nsIn K mainGlobals "MOST_CORNERS" = some (some (.int 6 t)))
    (y1 : ∃ t, PySem.W.nsIn K mainGlobals "MOST_FIGURES" = some (some (.int 30 t)))
    (y2 : ∃ t, PySem.W.nsIn K mainGlobals "MOST_LINKS" = some (some (.int 5 t))) :
    ∃ fd : FuncData, (∀ (s : Shared) (v : Value), BindsTo s fd ⟨[v], []⟩ [("_law_script", v)]) ∧ ∀ base : Heap, K.In base → base.Ns mainGlobals mg → SMod base → FnG l.prog w K mg base 10 fa fd ["_law_script"] (sp_law K) := by
  have e := hfa.symm.trans (PySem.W.mg_of X G a39)
  cases e
  have T : Tx mg := ⟨PySem.W.mg_none_of X G z0, PySem.W.mg_none_of X G z1, PySem.W.mg_none_of X G z2, PySem.W.mg_none_of X G z3, PySem.W.mg_none_of X G z4, PySem.W.mg_none_of X G z5, PySem.W.mg_none_of X G z6, PySem.W.mg_none_of X G z7, PySem.W.mg_none_of X G z8, PySem.W.mg_none_of X G z9, PySem.W.mg_none_of X G z10, PySem.W.mg_none_of X G z11, PySem.W.mg_none_of X G z12, (let ⟨t, h⟩ := y0; ⟨t, PySem.W.mg_of X G h⟩), (let ⟨t, h⟩ := y1; ⟨t, PySem.W.mg_of X G h⟩), (let ⟨t, h⟩ := y2; ⟨t, PySem.W.mg_of X G h⟩)⟩
  have F0 := fun_mk (st := s_line_of) l0 c0 k0
  have b0 := F0.binds (ps := ["word", "numbers"]) fun _ _ _ _ _ _ us hl => match us, hl with | [_, _], _ => rfl
  have F1 := fun_mk (st := s_line_of_l) l1 c1 k1
  have b1 := F1.binds (ps := ["word", "numbers"]) fun _ _ _ _ _ _ us hl => match us, hl with | [_, _], _ => rfl
  have F2 := fun_mk (st := s_lines_of) l2 c2 k2
  have b2 := F2.binds (ps := ["text"]) fun _ _ _ _ _ _ us hl => match us, hl with | [_], _ => rfl
  have F3 := fun_mk (st := s_number_in) l3 c3 k3
  have b3 := F3.binds (ps := ["word"]) fun _ _ _ _ _ _ us hl => match us, hl with | [_], _ => rfl
  have F4 := fun_mk (st := s_rising_in) l4 c4 k4
  have b4 := F4.binds (ps := ["words"]) fun _ _ _ _ _ _ us hl => match us, hl with | [_], _ => rfl
  have F5 := fun_mk (st := s_face_in) l5 c5 k5
  have b5 := F5.binds (ps := ["words"]) fun _ _ _ _ _ _ us hl => match us, hl with | [_], _ => rfl
  have F6 := fun_mk (st := s_place_in) l6 c6 k6
  have b6 := F6.binds (ps := ["word"]) fun _ _ _ _ _ _ us hl => match us, hl with | [_], _ => rfl
  have F7 := fun_mk (st := s_row_line) l7 c7 k7
  have b7 := F7.binds (ps := ["row"]) fun _ _ _ _ _ _ us hl => match us, hl with | [_], _ => rfl
  have F8 := fun_mk (st := s_lines_in) l8 c8 k8
  have b8 := F8.binds (ps := ["bar"]) fun _ _ _ _ _ _ us hl => match us, hl with | [_], _ => rfl
  have F9 := fun_mk (st := s_show_bar) l9 c9 k9
  have b9 := F9.binds (ps := ["bar"]) fun _ _ _ _ _ _ us hl => match us, hl with | [_], _ => rfl
  have F10 := fun_mk (st := s_word_of) l10 c10 k10
  have b10 := F10.binds (ps := ["line"]) fun _ _ _ _ _ _ us hl => match us, hl with | [_], _ => rfl
  have F11 := fun_mk (st := s_some_in) l11 c11 k11
  have b11 := F11.binds (ps := ["words"]) fun _ _ _ _ _ _ us hl => match us, hl with | [_], _ => rfl
  have F12 := fun_mk (st := s_cut_in) l12 c12 k12
  have b12 := F12.binds (ps := ["words"]) fun _ _ _ _ _ _ us hl => match us, hl with | [_], _ => rfl
  have F13 := fun_mk (st := s_set_in) l13 c13 k13
  have b13 := F13.binds (ps := ["line"]) fun _ _ _ _ _ _ us hl => match us, hl with | [_], _ => rfl
  have F14 := fun_mk (st := s_even_in) l14 c14 k14
  have b14 := F14.binds (ps := ["line"]) fun _ _ _ _ _ _ us hl => match us, hl with | [_], _ => rfl
  have F15 := fun_mk (st := s_many_read_e) l15 c15 k15
  have b15 := F15.binds (ps := ["lines", "at", "reading"]) fun _ _ _ _ _ _ us hl => match us, hl with | [_, _, _], _ => rfl
  have F16 := fun_mk (st := s_many_read_s) l16 c16 k16
  have b16 := F16.binds (ps := ["lines", "at", "reading"]) fun _ _ _ _ _ _ us hl => match us, hl with | [_, _, _], _ => rfl
  have F17 := fun_mk (st := s_lone_read) l17 c17 k17
  have b17 := F17.binds (ps := ["lines", "at"]) fun _ _ _ _ _ _ us hl => match us, hl with | [_, _], _ => rfl
  have F18 := fun_mk (st := s_inner_read) l18 c18 k18
  have b18 := F18.binds (ps := ["lines", "at"]) fun _ _ _ _ _ _ us hl => match us, hl with | [_, _], _ => rfl
  have F19 := fun_mk (st := s_read_bar) l19 c19 k19
  have b19 := F19.binds (ps := ["text"]) fun _ _ _ _ _ _ us hl => match us, hl with | [_], _ => rfl
  have F20 := fun_mk (st := s_lpen) l20 c20 k20
  have b20 := F20.binds (ps := ["_law_script"]) fun _ _ _ _ _ _ us hl => match us, hl with | [_], _ => rfl
  have F21 := fun_mk (st := s_ldraw) l21 c21 k21
  have b21 := F21.binds (ps := ["_law_pen_here", "_law_many"]) fun _ _ _ _ _ _ us hl => match us, hl with | [_, _], _ => rfl
  have F22 := fun_mk (st := s_lpicked) l22 c22 k22
  have b22 := F22.binds (ps := ["_law_pen_here", "_law_things", "_law_many"]) fun _ _ _ _ _ _ us hl => match us, hl with | [_, _, _], _ => rfl
  have F23 := fun_mk (st := s_lpicked_t) l23 c23 k23
  have b23 := F23.binds (ps := ["_law_pen_here", "_law_things", "_law_many"]) fun _ _ _ _ _ _ us hl => match us, hl with | [_, _, _], _ => rfl
  have F24 := fun_mk (st := s_lpicked_r) l24 c24 k24
  have b24 := F24.binds (ps := ["_law_pen_here", "_law_things", "_law_many"]) fun _ _ _ _ _ _ us hl => match us, hl with | [_, _, _], _ => rfl
  have F25 := fun_mk (st := s_lcorners) l25 c25 k25
  have b25 := F25.binds (ps := ["_law_pen_here", "_law_many"]) fun _ _ _ _ _ _ us hl => match us, hl with | [_, _], _ => rfl
  have F26 := fun_mk (st := s_ltwo) l26 c26 k26
  have b26 := F26.binds (ps := ["_law_pen_here", "_law_n", "_law_shared_corners"]) fun _ _ _ _ _ _ us hl => match us, hl with | [_, _, _], _ => rfl
  have F27 := fun_mk (st := s_lrings) l27 c27 k27
  have b27 := F27.binds (ps := ["_law_pen_here"]) fun _ _ _ _ _ _ us hl => match us, hl with | [_], _ => rfl
  have F28 := fun_mk (st := s_lsimple) l28 c28 k28
  have b28 := F28.binds (ps := ["_law_pen_here", "_law_n"]) fun _ _ _ _ _ _ us hl => match us, hl with | [_, _], _ => rfl
  have F29 := fun_mk (st := s_lbarred) l29 c29 k29
  have b29 := F29.binds (ps := ["_law_pen_here"]) fun _ _ _ _ _ _ us hl => match us, hl with | [_], _ => rfl
  have F30 := fun_mk (st := s_lline) l30 c30 k30
  have b30 := F30.binds (ps := ["_law_word", "_law_numbers_here"]) fun _ _ _ _ _ _ us hl => match us, hl with | [_, _], _ => rfl
  have F31 := fun_mk (st := s_lline_l) l31 c31 k31
  have b31 := F31.binds (ps := ["_law_word", "_law_numbers_here"]) fun _ _ _ _ _ _ us hl => match us, hl with | [_, _], _ => rfl
  have F32 := fun_mk (st := s_lfar) l32 c32 k32
  have b32 := F32.binds (ps := ["_law_pen_here"]) fun _ _ _ _ _ _ us hl => match us, hl with | [_], _ => rfl
  have F33 := fun_mk (st := s_lface) l33 c33 k33
  have b33 := F33.binds (ps := ["_law_pen_here", "_law_least", "_law_most"]) fun _ _ _ _ _ _ us hl => match us, hl with | [_, _, _], _ => rfl
  have F34 := fun_mk (st := s_lnumbers) l34 c34 k34
  have b34 := F34.binds (ps := ["_law_pen_here", "_law_least"]) fun _ _ _ _ _ _ us hl => match us, hl with | [_, _], _ => rfl
  have F35 := fun_mk (st := s_lsets) l35 c35 k35
  have b35 := F35.binds (ps := ["_law_pen_here"]) fun _ _ _ _ _ _ us hl => match us, hl with | [_], _ => rfl
  have F36 := fun_mk (st := s_lbar) l36 c36 k36
  have b36 := F36.binds (ps := ["_law_pen_here", "_law_links"]) fun _ _ _ _ _ _ us hl => match us, hl with | [_, _], _ => rfl
  have F37 := fun_mk (st := s_lbar_lines) l37 c37 k37
  have b37 := F37.binds (ps := ["_law_bar_here"]) fun _ _ _ _ _ _ us hl => match us, hl with | [_], _ => rfl
  have F38 := fun_mk (st := s_lright) l38 c38 k38
  have b38 := F38.binds (ps := ["_law_bar_here"]) fun _ _ _ _ _ _ us hl => match us, hl with | [_], _ => rfl
  have F39 := fun_mk (st := s_law) l39 c39 k39
  have b39 := F39.binds (ps := ["_law_script"]) fun _ _ _ _ _ _ us hl => match us, hl with | [_], _ => rfl
  refine ⟨PySem.W.fnOf "law" "law" (defArgs s_law) (defBody s_law) (defScope s_law) .none kV39 dc39 pm39 an39 cd39 ct39, fun s v => BindsTo.of_eq rfl, fun base _ _ SM => ?_⟩
  have H0 : Has l.prog w K mg base "line_of" ["word", "numbers"] 1 (sp_line_of K) := ⟨f0, _, PySem.W.mg_of X G a0, k0, b0, ok_line_of F0 T⟩
  have H1 : Has l.prog w K mg base "line_of" ["word", "numbers"] 1 (sp_line_of_l K) := ⟨f1, _, PySem.W.mg_of X G a1, k1, b1, ok_line_of_l F1 T⟩
  have H2 : Has l.prog w K mg base "lines_of" ["text"] 1 (sp_lines_of K) := ⟨f2, _, PySem.W.mg_of X G a2, k2, b2, ok_lines_of F2 T⟩
  have H3 : Has l.prog w K mg base "number_in" ["word"] 1 (sp_number_in K) := ⟨f3, _, PySem.W.mg_of X G a3, k3, b3, ok_number_in F3 T⟩
  have H4 : Has l.prog w K mg base "rising_in" ["words"] 2 (sp_rising_in K) := ⟨f4, _, PySem.W.mg_of X G a4, k4, b4, ok_rising_in F4 T H3⟩
  have H5 : Has l.prog w K mg base "face_in" ["words"] 3 (sp_face_in K) := ⟨f5, _, PySem.W.mg_of X G a5, k5, b5, ok_face_in F5 T H4⟩
  have H6 : Has l.prog w K mg base "place_in" ["word"] 2 (sp_place_in K) := ⟨f6, _, PySem.W.mg_of X G a6, k6, b6, ok_place_in F6 T H3⟩
  have H7 : Has l.prog w K mg base "row_line" ["row"] 2 (sp_row_line K) := ⟨f7, _, PySem.W.mg_of X G a7, k7, b7, ok_row_line F7 T H0⟩
  have H8 : Has l.prog w K mg base "lines_in" ["bar"] 3 (sp_lines_in K) := ⟨f8, _, PySem.W.mg_of X G a8, k8, b8, ok_lines_in F8 T H7 H1 H0⟩
  have H9 : Has l.prog w K mg base "show_bar" ["bar"] 4 (sp_show_bar K) := ⟨f9, _, PySem.W.mg_of X G a9, k9, b9, ok_show_bar F9 T H0 H8⟩
  have H10 : Has l.prog w K mg base "word_of" ["line"] 1 (sp_word_of K) := ⟨f10, _, PySem.W.mg_of X G a10, k10, b10, ok_word_of F10 T⟩
  have H11 : Has l.prog w K mg base "some_in" ["words"] 3 (sp_some_in K) := ⟨f11, _, PySem.W.mg_of X G a11, k11, b11, ok_some_in F11 T H4⟩
  have H12 : Has l.prog w K mg base "cut_in" ["words"] 4 (sp_cut_in K) := ⟨f12, _, PySem.W.mg_of X G a12, k12, b12, ok_cut_in F12 T H6 H5⟩
  have H13 : Has l.prog w K mg base "set_in" ["line"] 5 (sp_set_in K) := ⟨f13, _, PySem.W.mg_of X G a13, k13, b13, ok_set_in F13 T H11 H12⟩
  have H14 : Has l.prog w K mg base "even_in" ["line"] 4 (sp_even_in K) := ⟨f14, _, PySem.W.mg_of X G a14, k14, b14, ok_even_in F14 T H11⟩
  have H15 : Has l.prog w K mg base "many_read" ["lines", "at", "reading"] 6 (sp_many_read_e K l.prog w mg base) := ⟨f15, _, PySem.W.mg_of X G a15, k15, b15, ok_many_read_e F15 T⟩
  have H16 : Has l.prog w K mg base "many_read" ["lines", "at", "reading"] 6 (sp_many_read_s K l.prog w mg base) := ⟨f16, _, PySem.W.mg_of X G a16, k16, b16, ok_many_read_s F16 T⟩
  have H17 : Has l.prog w K mg base "lone_read" ["lines", "at"] 4 (sp_lone_read K) := ⟨f17, _, PySem.W.mg_of X G a17, k17, b17, ok_lone_read F17 T H11 H6⟩
  have H18 : Has l.prog w K mg base "inner_read" ["lines", "at"] 7 (sp_inner_read K) := ⟨f18, _, PySem.W.mg_of X G a18, k18, b18, ok_inner_read F18 T H10 H17 H15 H16 (PySem.W.mg_of X G a14) H14 (PySem.W.mg_of X G a13) H13⟩
  have H19 : Has l.prog w K mg base "read_bar" ["text"] 8 (sp_read_bar K) := ⟨f19, _, PySem.W.mg_of X G a19, k19, b19, ok_read_bar F19 T H2 H10 H5 H18⟩
  have H20 : Has l.prog w K mg base "_law_pen" ["_law_script"] 1 (sp_lpen K) := ⟨f20, _, PySem.W.mg_of X G a20, k20, b20, ok_lpen F20 T⟩
  have H21 : Has l.prog w K mg base "_law_draw" ["_law_pen_here", "_law_many"] 1 (sp_ldraw K) := ⟨f21, _, PySem.W.mg_of X G a21, k21, b21, ok_ldraw F21 T⟩
  have H22 : Has l.prog w K mg base "_law_picked" ["_law_pen_here", "_law_things", "_law_many"] 2 (sp_lpicked K) := ⟨f22, _, PySem.W.mg_of X G a22, k22, b22, ok_lpicked F22 T H21⟩
  have H23 : Has l.prog w K mg base "_law_picked" ["_law_pen_here", "_law_things", "_law_many"] 2 (sp_lpicked_t K) := ⟨f23, _, PySem.W.mg_of X G a23, k23, b23, ok_lpicked_t F23 T H21⟩
  have H24 : Has l.prog w K mg base "_law_picked" ["_law_pen_here", "_law_things", "_law_many"] 2 (sp_lpicked_r K) := ⟨f24, _, PySem.W.mg_of X G a24, k24, b24, ok_lpicked_r F24 T H21⟩
  have H25 : Has l.prog w K mg base "_law_corners" ["_law_pen_here", "_law_many"] 2 (sp_lcorners K) := ⟨f25, _, PySem.W.mg_of X G a25, k25, b25, ok_lcorners F25 T H21⟩
  have H26 : Has l.prog w K mg base "_law_two" ["_law_pen_here", "_law_n", "_law_shared_corners"] 3 (sp_ltwo K) := ⟨f26, _, PySem.W.mg_of X G a26, k26, b26, ok_ltwo F26 T H25 H23⟩
  have H27 : Has l.prog w K mg base "_law_rings" ["_law_pen_here"] 3 (sp_lrings K) := ⟨f27, _, PySem.W.mg_of X G a27, k27, b27, ok_lrings F27 T H21 H25 H23⟩
  have H28 : Has l.prog w K mg base "_law_simple" ["_law_pen_here", "_law_n"] 4 (sp_lsimple K) := ⟨f28, _, PySem.W.mg_of X G a28, k28, b28, ok_lsimple F28 T H21 H26 H24⟩
  have H29 : Has l.prog w K mg base "_law_barred" ["_law_pen_here"] 5 (sp_lbarred K) := ⟨f29, _, PySem.W.mg_of X G a29, k29, b29, ok_lbarred F29 T H21 H27 H28 H22⟩
  have H30 : Has l.prog w K mg base "_law_line" ["_law_word", "_law_numbers_here"] 1 (sp_lline K) := ⟨f30, _, PySem.W.mg_of X G a30, k30, b30, ok_lline F30 T⟩
  have H31 : Has l.prog w K mg base "_law_line" ["_law_word", "_law_numbers_here"] 1 (sp_lline_l K) := ⟨f31, _, PySem.W.mg_of X G a31, k31, b31, ok_lline_l F31 T⟩
  have H32 : Has l.prog w K mg base "_law_far" ["_law_pen_here"] 2 (sp_lfar K) := ⟨f32, _, PySem.W.mg_of X G a32, k32, b32, ok_lfar F32 T H21⟩
  have H33 : Has l.prog w K mg base "_law_face" ["_law_pen_here", "_law_least", "_law_most"] 3 (sp_lface K) := ⟨f33, _, PySem.W.mg_of X G a33, k33, b33, ok_lface F33 T H25 H21 H22⟩
  have H34 : Has l.prog w K mg base "_law_numbers" ["_law_pen_here", "_law_least"] 3 (sp_lnumbers K) := ⟨f34, _, PySem.W.mg_of X G a34, k34, b34, ok_lnumbers F34 T H21 H22 H32⟩
  have H35 : Has l.prog w K mg base "_law_sets" ["_law_pen_here"] 4 (sp_lsets K) := ⟨f35, _, PySem.W.mg_of X G a35, k35, b35, ok_lsets F35 T H21 H32 H33 H34⟩
  have H36 : Has l.prog w K mg base "_law_bar" ["_law_pen_here", "_law_links"] 5 (sp_lbar K) := ⟨f36, _, PySem.W.mg_of X G a36, k36, b36, ok_lbar F36 T H21 H32 H34 H35 H33⟩
  have R37 : ∀ d, Has l.prog w K mg base "_law_bar_lines" ["_law_bar_here"] (2 + d) (sp_lbar_lines K d) := fun d => by
    induction d with
    | zero => exact ⟨f37, _, PySem.W.mg_of X G a37, k37, b37, never_f never_lbar_lines⟩
    | succ d ih => exact ⟨f37, _, PySem.W.mg_of X G a37, k37, b37, ok_lbar_lines F37 T H30 H31 ih⟩
  have H37 := R37 6
  have H38 : HasG l.prog w K mg base "_law_right" ["_law_bar_here"] 9 (sp_lright K) := ⟨f38, _, PySem.W.mg_of X G a38, k38, b38, ok_lright F38 T SM H37 H9 H19⟩
  exact ok_law F39 T H20 H21 H36 H38 H29 H19
end Ws
open PySem PySem.W PyProof.Rows in
set_option maxRecDepth 100000 in
set_option maxHeartbeats 0 in
theorem PySem.Challenge.cw_wholesides_k51_bars_as_texts_holds : PySem.Challenge.rw_wholesides_k51_bars_as_texts.Holds := by
  w_on; o_law; k_head; (case hw => w_witness2)
  k_fill
  refine Ws.walkGS (l := PySem.Challenge.rw_wholesides_k51_bars_as_texts) (n := 63) (k := 10) (x := "_law_script") (sp := fun w => Ws.sp_law _) rfl (by decide) rfl ⟨rfl, by decide, by decide⟩ ?hi (fun w h Y => PySem.W.kIn_of Y) ?F (fun w H a ns hl hS hH => Ws.law_go (Ws.fz_of hS hH) (Ws.law_true ns))
  (case hi => kernel_rfl)
  case F =>
    intro w mg fa h KX G hmg
    refine' Ws.all_mk KX G hmg ?a0 ?l0 ?c0 ?k0 ?a1 ?l1 ?c1 ?k1 ?a2 ?l2 ?c2 ?k2 ?a3 ?l3 ?c3 ?k3 ?a4 ?l4 ?c4 ?k4 ?a5 ?l5 ?c5 ?k5 ?a6 ?l6 ?c6 ?k6 ?a7 ?l7 ?c7 ?k7 ?a8 ?l8 ?c8 ?k8 ?a9 ?l9 ?c9 ?k9 ?a10 ?l10 ?c10 ?k10 ?a11 ?l11 ?c11 ?k11 ?a12 ?l12 ?c12 ?k12 ?a13 ?l13 ?c13 ?k13 ?a14 ?l14 ?c14 ?k14 ?a15 ?l15 ?c15 ?k15 ?a16 ?l16 ?c16 ?k16 ?a17 ?l17 ?c17 ?k17 ?a18 ?l18 ?c18 ?k18 ?a19 ?l19 ?c19 ?k19 ?a20 ?l20 ?c20 ?k20 ?a21 ?l21 ?c21 ?k21 ?a22 ?l22 ?c22 ?k22 ?a23 ?l23 ?c23 ?k23 ?a24 ?l24 ?c24 ?k24 ?a25 ?l25 ?c25 ?k25 ?a26 ?l26 ?c26 ?k26 ?a27 ?l27 ?c27 ?k27 ?a28 ?l28 ?c28 ?k28 ?a29 ?l29 ?c29 ?k29 ?a30 ?l30 ?c30 ?k30 ?a31 ?l31 ?c31 ?k31 ?a32 ?l32 ?c32 ?k32 ?a33 ?l33 ?c33 ?k33 ?a34 ?l34 ?c34 ?k34 ?a35 ?l35 ?c35 ?k35 ?a36 ?l36 ?c36 ?k36 ?a37 ?l37 ?c37 ?k37 ?a38 ?l38 ?c38 ?k38 ?a39 ?l39 ?c39 ?k39 ?z0 ?z1 ?z2 ?z3 ?z4 ?z5 ?z6 ?z7 ?z8 ?z9 ?z10 ?z11 ?z12 ?y0 ?y1 ?y2
    (case a0 => k_is)
    (case l0 => k_is)
    (case c0 => k_is)
    (case k0 => k_is)
    (case a1 => k_is)
    (case l1 => k_is)
    (case c1 => k_is)
    (case k1 => k_is)
    (case a2 => k_is)
    (case l2 => k_is)
    (case c2 => k_is)
    (case k2 => k_is)
    (case a3 => k_is)
    (case l3 => k_is)
    (case c3 => k_is)
    (case k3 => k_is)
    (case a4 => k_is)
    (case l4 => k_is)
    (case c4 => k_is)
    (case k4 => k_is)
    (case a5 => k_is)
    (case l5 => k_is)
    (case c5 => k_is)
    (case k5 => k_is)
    (case a6 => k_is)
    (case l6 => k_is)
    (case c6 => k_is)
    (case k6 => k_is)
    (case a7 => k_is)
    (case l7 => k_is)
    (case c7 => k_is)
    (case k7 => k_is)
    (case a8 => k_is)
    (case l8 => k_is)
    (case c8 => k_is)
    (case k8 => k_is)
    (case a9 => k_is)
    (case l9 => k_is)
    (case c9 => k_is)
    (case k9 => k_is)
    (case a10 => k_is)
    (case l10 => k_is)
    (case c10 => k_is)
    (case k10 => k_is)
    (case a11 => k_is)
    (case l11 => k_is)
    (case c11 => k_is)
    (case k11 => k_is)
    (case a12 => k_is)
    (case l12 => k_is)
    (case c12 => k_is)
    (case k12 => k_is)
    (case a13 => k_is)
    (case l13 => k_is)
    (case c13 => k_is)
    (case k13 => k_is)
    (case a14 => k_is)
    (case l14 => k_is)
    (case c14 => k_is)
    (case k14 => k_is)
    (case a15 => k_is)
    (case l15 => k_is)
    (case c15 => k_is)
    (case k15 => k_is)
    (case a16 => k_is)
    (case l16 => k_is)
    (case c16 => k_is)
    (case k16 => k_is)
    (case a17 => k_is)
    (case l17 => k_is)
    (case c17 => k_is)
    (case k17 => k_is)
    (case a18 => k_is)
    (case l18 => k_is)
    (case c18 => k_is)
    (case k18 => k_is)
    (case a19 => k_is)
    (case l19 => k_is)
    (case c19 => k_is)
    (case k19 => k_is)
    (case a20 => k_is)
    (case l20 => k_is)
    (case c20 => k_is)
    (case k20 => k_is)
    (case a21 => k_is)
    (case l21 => k_is)
    (case c21 => k_is)
    (case k21 => k_is)
    (case a22 => k_is)
    (case l22 => k_is)
    (case c22 => k_is)
    (case k22 => k_is)
    (case a23 => k_is)
    (case l23 => k_is)
    (case c23 => k_is)
    (case k23 => k_is)
    (case a24 => k_is)
    (case l24 => k_is)
    (case c24 => k_is)
    (case k24 => k_is)
    (case a25 => k_is)
    (case l25 => k_is)
    (case c25 => k_is)
    (case k25 => k_is)
    (case a26 => k_is)
    (case l26 => k_is)
    (case c26 => k_is)
    (case k26 => k_is)
    (case a27 => k_is)
    (case l27 => k_is)
    (case c27 => k_is)
    (case k27 => k_is)
    (case a28 => k_is)
    (case l28 => k_is)
    (case c28 => k_is)
    (case k28 => k_is)
    (case a29 => k_is)
    (case l29 => k_is)
    (case c29 => k_is)
    (case k29 => k_is)
    (case a30 => k_is)
    (case l30 => k_is)
    (case c30 => k_is)
    (case k30 => k_is)
    (case a31 => k_is)
    (case l31 => k_is)
    (case c31 => k_is)
    (case k31 => k_is)
    (case a32 => k_is)
    (case l32 => k_is)
    (case c32 => k_is)
    (case k32 => k_is)
    (case a33 => k_is)
    (case l33 => k_is)
    (case c33 => k_is)
    (case k33 => k_is)
    (case a34 => k_is)
    (case l34 => k_is)
    (case c34 => k_is)
    (case k34 => k_is)
    (case a35 => k_is)
    (case l35 => k_is)
    (case c35 => k_is)
    (case k35 => k_is)
    (case a36 => k_is)
    (case l36 => k_is)
    (case c36 => k_is)
    (case k36 => k_is)
    (case a37 => k_is)
    (case l37 => k_is)
    (case c37 => k_is)
    (case k37 => k_is)
    (case a38 => k_is)
    (case l38 => k_is)
    (case c38 => k_is)
    (case k38 => k_is)
    (case a39 => k_is)
    (case l39 => k_is)
    (case c39 => k_is)
    (case k39 => k_is)
    (case z0 => k_is)
    (case z1 => k_is)
    (case z2 => k_is)
    (case z3 => k_is)
    (case z4 => k_is)
    (case z5 => k_is)
    (case z6 => k_is)
    (case z7 => k_is)
    (case z8 => k_is)
    (case z9 => k_is)
    (case z10 => k_is)
    (case z11 => k_is)
    (case z12 => k_is)
    (case y0 => exact ⟨_, by k_is⟩)
    (case y1 => exact ⟨_, by k_is⟩)
    (case y2 => exact ⟨_, by k_is⟩)
