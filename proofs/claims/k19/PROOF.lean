import PyProof.Rows.All
import Wide.All
import OpenK.AllK
import Wide.FinOn
import HandS.ForMost
import HandS.NoneIn
import HandS.CallLocal
import PyProof.ReprRoads
import KE.SortKeyHeap
import HandS.SortKw
import HandS.Strs
import HandS.SetFor
import HandS.TupAny
import HandS.TupSets
import HandS.Style
import HandS.Conv
import HandS.Deep
import HandS.IsInst
import HandS.Steps
import HandS.Small
import HandS.Dict
import HandS.WordsDict
import HandS.TupLen
import KE.KDictSum
import HandS.Exc
import HandS.ExcIs
import HandS.ExcOwn
import HandS.WordsExc
import KE.KExcIs
import HandS.ExcInit
import HandS.ExcField
import HandS.Lambda
import HandS.TupMul
import KE.KDictDisplayH
import HandS.Wide
import PySem.Challenge.RW_wholesides_k19_wishes
set_option Elab.async false
set_option linter.all false
set_option maxRecDepth 100000
set_option maxHeartbeats 4000000
namespace Ws
open PySem PySem.Spec PyProof.Rows L2
/-! # Contracts of defs that are called where no repr is under way -/

/-- a def's promise, kept wherever the stack bears no running repr -/
structure FnG (P : Program) (w : World) (K : PySem.W.Frag) (mg : Str → Option Value) (base : Heap) (k : Nat) (f : Addr) (fd : FuncData) (ps : List Str) (sp : Sp) : Prop where
  len : ∀ vs H Q E, sp vs H Q E → vs.length = ps.length
  run : ∀ (A : Around) (outer : List Env) (s : Shared) (H : Hp) (args : Args) (us : List Value) (vs : List V) (Q : VK) (E : XK), A.guards = some [] → Room k A →
    Env0 P w K mg base A outer s H → BindsTo s fd args (ps.zip us) → Vals vs us → sp vs H Q E → codeAny (model P w) A (.call (.ref f) args) (CR CX0 outer P w H s Q E) s

section
variable {P : Program} {w : World} {K : PySem.W.Frag} {mg : Str → Option Value} {base : Heap} {k : Nat} {f : Addr} {fd : FuncData} {ps : List Str} {sp : Sp}
theorem FnG.of (F : FnOk P w K mg base CX0 k f fd ps sp) : FnG P w K mg base k f fd ps sp :=
  ⟨F.len, fun A outer s H args us vs Q E _ => F.run A outer s H args us vs Q E⟩
theorem FnG.up {j : Nat} (F : FnG P w K mg base j f fd ps sp) (h : j ≤ k) : FnG P w K mg base k f fd ps sp :=
  ⟨F.len, fun A outer s H args us vs Q E hg hr => F.run A outer s H args us vs Q E hg (hr.mono h)⟩

/-- the body of such a def: what is known besides is that no repr runs -/
theorem okG {x qual : Str} {st : Stmt} {N : List Str} (F : Fun K x qual st f fd) (S : FnScope N ps (defScope st)) (len : ∀ vs H Q E, sp vs H Q E → vs.length = ps.length)
    (hbody : ∀ (cdv : Value) (A : Around) (outer : List Env) (s : Shared) (H : Hp) (vs : List V) (Q : VK) (E : XK), (A.deeper (envOfC qual (defScope st) s.heap.objs.size f cdv)).guards = some [] →
      Room k (A.deeper (envOfC qual (defScope st) s.heap.objs.size f cdv)) → sp vs H Q E →
      ∃ t, PSs (cxOf CX0 P w K mg base N qual (defScope st) f cdv A outer s H E).nox (defBody st) t ∧ t { nx := fun _ H' => Q .non H', rt := Q } (start N vs) H) :
    FnG P w K mg base (k + 1) f fd ps sp := by
  obtain ⟨oc, od, kV, doc, pm, an, cdv, ct, osl, rfl, lk, hcd⟩ := F.ex
  refine ⟨len, fun A outer s H args us vs Q E hg hr e0 hb r hsp => ?_⟩
  have kept : ∀ b o, base.get? b = some o → s.heap.get? b = some o := fun b o e => (e0.bs b o e).1
  have KX : K.In s.heap := e0.mod.kin.keeps kept
  refine codeAny_call_function hr.depth (KX _ _ lk) rfl S.co S.gen rfl (PySem.W.codeRec_of KX hcd) (hb _ _ _ _ ?_)
  refine wpAny_newFunctionEnv_cells S.kind (fun y hy => ?_) fun env he s1 x => ?_
  · rcases S.par y.1 (List.of_mem_zip (show (y.1, y.2) ∈ ps.zip us from hy)).1 with q | q
    · exact .inl q
    · exact .inr ⟨q, PySem.W.cellsFrom_some _ _ _ (.inl q)⟩
  · subst he
    obtain ⟨t, ht, hq⟩ := hbody cdv A outer s H vs Q E hg (hr.deeper _) hsp
    refine ⟨(e0.mod.nolimit.keeps kept).keeps x.toInCall.keep, codeAny_func (wpAny_mono (ht.nox.run [] s1 (start N vs) H _ (inv_start S hr.hd e0 (len _ _ _ _ hsp) r x) hq) (fun fl s' hs => ?_) fun e s' hs => hs)⟩
    cases fl with
    | ret u => exact let ⟨v, _, H', J, rv, q⟩ := hs; ⟨v, H', J.os, J.bare, J.base, J.hok, rv, q⟩
    | next => exact let ⟨_, H', J, q⟩ := hs; ⟨V.non, H', J.os, J.bare, J.base, J.hok, rfl, q⟩
    | brk => exact let ⟨_, _, _, q⟩ := hs; q.elim
    | cont => exact let ⟨_, _, _, q⟩ := hs; q.elim
end

/-! ## defs by their names -/
/-- the module's name x holds a def that keeps sp -/
structure Has (P : Program) (w : World) (K : PySem.W.Frag) (mg : Str → Option Value) (base : Heap) (x : Str) (ps : List Str) (k : Nat) (sp : Sp) : Prop where
  ex : ∃ (f : Addr) (fd : FuncData), mg x = some (.ref f) ∧ PySem.W.keepIn K (.ref f) = true ∧ Binds K fd ps [] ∧ FnOk P w K mg base CX0 k f fd ps sp
structure HasG (P : Program) (w : World) (K : PySem.W.Frag) (mg : Str → Option Value) (base : Heap) (x : Str) (ps : List Str) (k : Nat) (sp : Sp) : Prop where
  ex : ∃ (f : Addr) (fd : FuncData), mg x = some (.ref f) ∧ PySem.W.keepIn K (.ref f) = true ∧ Binds K fd ps [] ∧ FnG P w K mg base k f fd ps sp
/-- the def at the address f keeps sp -/
structure At (P : Program) (w : World) (K : PySem.W.Frag) (mg : Str → Option Value) (base : Heap) (f : Addr) (k : Nat) (sp : Sp) : Prop where
  ex : ∃ (fd : FuncData) (ps : List Str), PySem.W.keepIn K (.ref f) = true ∧ Binds K fd ps [] ∧ FnOk P w K mg base CX0 k f fd ps sp

section
variable {X : Cx} {x : Str} {ps : List Str} {k : Nat} {sp : Sp} {p pos : Pos} {e : Expr} {es : List Expr} {t : TA}
theorem Has.g {P : Program} {w : World} {K : PySem.W.Frag} {mg : Str → Option Value} {base : Heap} (h : Has P w K mg base x ps k sp) : HasG P w K mg base x ps k sp :=
  let ⟨f, fd, h1, h2, h3, h4⟩ := h.ex
  ⟨f, fd, h1, h2, h3, .of h4⟩
theorem pe_h (h : Has X.prog X.w X.K X.mg X.base x ps k sp) (hr : Room k X.A) (hg : Gl X x) (ha : PA X (e :: es) t) (hdb : (x == ("__debug__" : Str)) = false := by decide)
    (he : starEach (e :: es) X.env = (false, eval e X.env) :: starEach es X.env := by rfl) (hpl : (backTo pos (starEach es X.env)).any (·.1) = false := by rfl) :
    PE X (.Call (.Name x p) (e :: es) [] pos) (tCall sp [] E0 t) := by
  obtain ⟨f, fd, hm, hk, hb, F⟩ := h.ex
  exact pe_call F hr hg hm hk hb .nil pass0 ha hdb he hpl
theorem pe_h0 (h : Has X.prog X.w X.K X.mg X.base x ps k sp) (hr : Room k X.A) (hg : Gl X x) (hdb : (x == ("__debug__" : Str)) = false := by decide) :
    PE X (.Call (.Name x p) [] [] pos) (tCall sp [] E0 tNil) := by
  obtain ⟨f, fd, hm, hk, hb, F⟩ := h.ex
  exact pe_call0 F hr hg hm hk hb .nil pass0 hdb
/-- a call of a def that needs to know that no repr runs -/
theorem pe_g (h : HasG X.prog X.w X.K X.mg X.base x ps k sp) (hq : X.A.guards = some []) (hr : Room k X.A) (hg : Gl X x) (ha : PA X (e :: es) t) (hdb : (x == ("__debug__" : Str)) = false := by decide)
    (he : starEach (e :: es) X.env = (false, eval e X.env) :: starEach es X.env := by rfl) (hpl : (backTo pos (starEach es X.env)).any (·.1) = false := by rfl) :
    PE X (.Call (.Name x p) (e :: es) [] pos) (tCall sp [] E0 t) := by
  obtain ⟨f, fd, hm, hk, hb, F⟩ := h.ex
  refine ⟨fun pins s σ H Q I hw => wpAny_Call_Name_kw (ld_glob I hg hm ?_ hdb)⟩
  refine PySem.W.callWith_K (h₀ := X.base) I.ok.mod.kin hk (thn (ha.run pos pins s σ H _ I hw) fun us s1 ⟨vs, H1, I1, r, q⟩ => ⟨I1.kIn, ?_⟩) he hpl
  have r2 : Vals (vs ++ []) (us ++ []) := r.append .nil
  have hl : (us ++ []).length = ps.length := r2.length.symm.trans (F.len _ _ _ _ q)
  refine wpAny_call (codeAny_mono (F.run X.A X.stack s1 H1 ⟨us, []⟩ _ _ Q E0 hq hr I1.env0 (hb s1 us I1.kIn hl) r2 q) fun res s' hs => ?_)
  match res, hs with
  | .error _, z => exact False.elim z
  | .ok (.ret u), z => exact I1.after z
  | .ok .next, z => exact False.elim z
  | .ok .brk, z => exact False.elim z
  | .ok .cont, z => exact False.elim z
end

/-- a statement, then the rest; between them a word, from which the rest is shown once -/
def tCut (t u : TS) : TS := fun D σ H => ∃ M : L2.St → Hp → Prop, t { D with nx := M } σ H ∧ ∀ σ' H', M σ' H' → u D σ' H'
theorem pss_cut {X : Cx} {st : Stmt} {rest : List Stmt} {t u : TS} (h1 : PS X st t) (h2 : PSs X rest u) : PSs X (st :: rest) (tCut t u) := by
  refine ⟨fun pins s σ H D I ⟨M, hm, hu⟩ => wpAny_execs_cons (thn (h1.run pins s σ H _ I hm) fun f s1 q => ?_)⟩
  match f, q with
  | .next, ⟨σ', H', I', m⟩ => exact h2.run pins s1 σ' H' D I' (hu σ' H' m)
  | .ret _, q => exact q
  | .brk, q => exact q
  | .cont, q => exact q

/-! ## a local that holds a def: whatever def it is, its promise goes with it -/
def tCallF (P : Program) (w : World) (K : PySem.W.Frag) (mg : Str → Option Value) (base : Heap) (k i : Nat) (t : TA) : TE := fun σ H Q => ∃ f sp, σ[i]? = some (some (.ref f)) ∧ Held P w K mg base k f sp ∧ t σ H fun vs H1 => sp vs H1 Q E0
theorem pe_callF {X : Cx} {k i : Nat} {x : Str} {p pos : Pos} {e : Expr} {es : List Expr} {t : TA} (hr : Room k X.A) (hN : X.N[i]? = some x) (hv : Vis X.env.scope x) (ha : PA X (e :: es) t)
    (hdb : (x == ("__debug__" : Str)) = false := by decide) (hcd : (x == ("__classdict__" : Str)) = false := by decide)
    (he : starEach (e :: es) X.env = (false, eval e X.env) :: starEach es X.env := by rfl) (hpl : (backTo pos (starEach es X.env)).any (·.1) = false := by rfl) :
    PE X (.Call (.Name x p) (e :: es) [] pos) (tCallF X.prog X.w X.K X.mg X.base k i t) := by
  classical
  refine ⟨fun pins s σ H Q I h => ?_⟩
  obtain ⟨f, sp, h1, h2, h3⟩ := h
  exact (pe_callA (k := k) (i := i) (S := fun g => if g = f then some sp else none) (fun g sp' e => by
    by_cases hgf : g = f
    · rw [if_pos hgf] at e
      cases e
      exact hgf ▸ h2
    · rw [if_neg hgf] at e
      cases e) hr hN hv ha hdb hcd he hpl).run pins s σ H Q I ⟨f, sp, h1, if_pos rfl, h3⟩
theorem Has.held {P : Program} {w : World} {K : PySem.W.Frag} {mg : Str → Option Value} {base : Heap} {x : Str} {ps : List Str} {k : Nat} {sp : Sp} {f : Addr} (h : Has P w K mg base x ps k sp) (g : mg x = some (.ref f)) : Held P w K mg base k f sp := by
  obtain ⟨f', fd, h1, h2, h3, h4⟩ := h.ex
  rw [g] at h1
  cases h1
  exact ⟨fd, ps, h4, h2, h3⟩

/-! ## the end of a law row, from a promise that knows that no repr runs -/
theorem endG {P : Program} {w : World} {K : PySem.W.Frag} {mg mb : Str → Option Value} {k : Nat} {fa a : Addr} {fd : FuncData} {x : Str} {sp : Sp} {s₁ : Shared} {vs : List Value} {H : Hp}
    (KX : K.In s₁.heap) (hns : s₁.heap.Ns mainGlobals mg) (hb : s₁.heap.Ns builtinsNs mb) (hbb : ∀ x : Str, x ≠ "__name__" → mb x = bootBuiltins x) (hlim : s₁.heap.NoLimit) (hg : s₁.gens = #[])
    (ha : s₁.heap.get? a = some { cls := .type "list", data := .seq vs.toArray }) (hr : Room k callerA)
    (F : ∀ base : Heap, K.In base → base.Ns mainGlobals mg → FnG P w K mg base k fa fd [x] sp) (hbind : ∀ (s : Shared) (u : Value), BindsTo s fd ⟨[u], []⟩ [(x, u)])
    (hsp : sp [.ref a] H (fun v _ => v = .bl true) fun _ _ _ => False) (hok : HOk P w H s₁.heap)
    (hH : ∀ b u, H b = some u → b = a ∧ K.lookup a = none ∧ ∃ o v, u = .frz o v) :
    codeAny (model P w) callerA (.call (.ref fa) ⟨[.ref a], []⟩) (fun r s' => r = .ok (.ret (.bool true)) ∧ OldK s₁.heap s'.heap ∧ s'.os = s₁.os ∧ AllBare s'.gens) s₁ := by
  -- what is no list at a is not tracked
  have free : ∀ {b : Addr} {o : Obj}, s₁.heap.get? b = some o → (∀ xs n, o.data ≠ .seq xs n) → H b = none := fun {b o} e d => by
    cases q : H b with
    | none => rfl
    | some u =>
      obtain ⟨rfl, _⟩ := hH b u q
      rw [ha] at e
      cases e
      exact absurd rfl (d _ _)
  have ns : ∀ {b : Addr} {m : Str → Option Value}, s₁.heap.Ns b m → (hidT s₁.heap H).Ns b m := fun {b m} z => by
    obtain ⟨o, es, ep, e, d, r⟩ := z
    exact ⟨o, es, ep, hidT_get e (free e fun _ _ z => by rw [d] at z; cases z), d, r⟩
  have kin : K.In (hidT s₁.heap H) := fun b o e => hidT_get (KX b o e) (by
    cases q : H b with
    | none => rfl
    | some u =>
      obtain ⟨rfl, h2, _⟩ := hH b u q
      rw [h2] at e
      cases e)
  have lim : (hidT s₁.heap H).NoLimit := by
    obtain ⟨mc, h1, h2⟩ := hlim
    exact ⟨mc, ns h1, h2⟩
  have e0 : Env0 P w K mg (hidT s₁.heap H) callerA [] s₁ H := ⟨rfl, ⟨kin, ns hns, ⟨mb, ns hb, hbb⟩, lim⟩, fun b o e => of_hidT e, Nat.le_of_eq (hidT_size _ _), trivial, fun b z => (List.not_mem_nil (show b ∈ ([] : List Addr) from z)).elim, hok, .of_eq hg⟩
  refine codeAny_mono ((F _ kin (ns hns)).run callerA [] s₁ H ⟨[.ref a], []⟩ [.ref a] [.ref a] _ _ rfl hr e0 (hbind s₁ (.ref a)) (.cons rfl .nil) hsp) fun r s' h => ?_
  match r, h with
  | .error _, z => exact False.elim z
  | .ok .next, z => exact False.elim z
  | .ok .brk, z => exact False.elim z
  | .ok .cont, z => exact False.elim z
  | .ok (.ret u), ⟨v, H', os, bare, un, hok', rv, q⟩ =>
    obtain rfl : v = .bl true := q
    obtain rfl : u = Value.bool true := rv
    refine ⟨rfl, OldK.of_keep fun b o e => ?_, os, bare⟩
    cases q : H b with
    | none => exact un.keep b o e q (fun z => (List.not_mem_nil (show b ∈ ([] : List Addr) from z)).elim) (fun z => (List.not_mem_nil z).elim)
    | some u =>
      obtain ⟨_, _, ob, u', rfl⟩ := hH b u q
      have e1 := (hok b _ q).1
      have e2 := (hok' b _ (un.frzs b ob u' q)).1
      rw [e] at e1
      cases e1
      exact e2

theorem walkG {l : PySem.W.OpenLaw} {n k : Nat} {q : Program} {loose : List Str} {XP : (Str → Option Value) → Heap → Prop} {YP : World → Heap → Prop} {d : DefRec} {K : Params → PySem.W.Frag} {sp : World → Sp} {x : Str}
    (hn : l.most = some n) (hn2 : n ≤ sizeLine) (hdf : d.params.defaults = []) (hr : Room k callerA)
    (hY : ∀ (w : World) (h : Heap), YP w h → (K w.params).In h)
    (F : ∀ (w : World) (mg : Str → Option Value) (fa : Addr) (h : Heap), (K w.params).In h → h.Ns mainGlobals mg → mg d.name = some (.ref fa) →
      ∃ fd : FuncData, (∀ (s : Shared) (u : Value), BindsTo s fd ⟨[u], []⟩ [(x, u)]) ∧
        ∀ base : Heap, (K w.params).In base → base.Ns mainGlobals mg → FnG l.prog w (K w.params) mg base k fa fd [x] (sp w))
    (hsp : ∀ (w : World) (H : Hp) (a : Addr) (ns : List Int), ns.length ≤ n → SqL (K w.params) H a (ns.map V.int) → (∀ b u, H b = some u → b = a ∧ ∃ o v, u = .frz o v) → sp w [.ref a] H (fun v _ => v = .bl true) fun _ _ _ => False) :
    PySem.W.WalkO q loose XP YP l.row.toRowW d [] (fun f vs => PySem.call f vs) := by
  refine Att.attach_call hn hdf fun w s₀ s₁ mg mb fa o pm cd doc a vs ns G Y ho hd hcd hmg hobj hints hlen hg => ?_
  have KX := hY w _ Y
  obtain ⟨fd, hb, hF⟩ := F w mg fa _ KX G.T.g hmg
  have hl : ns.length ≤ sizeLine := Nat.le_trans hlen hn2
  have rv := vals_ints hints
  cases hk : (K w.params).lookup a with
  | some o =>
    have e := KX a o hk
    rw [hobj] at e
    cases e
    refine endG (H := fun _ => none) KX G.T.g G.T.b G.T.builtins G.T.nolimit hg hobj hr hF hb (hsp w _ a ns hlen ?_ fun b u z => nomatch z) (fun b u z => nomatch z) fun b u z => nomatch z
    exact .inr ⟨_, vs.toArray, _, hk, rfl, rfl, rfl, by rw [List.size_toArray, hints.length]; exact hl, by simpa using rv⟩
  | none =>
    have one : ∀ b u, (fun b => if b = a then some (HO.frz { cls := .type "list", data := .seq vs.toArray } (.lst (ns.map V.int))) else none) b = some u → b = a ∧ u = HO.frz { cls := .type "list", data := .seq vs.toArray } (.lst (ns.map V.int)) := fun b u z => by
      by_cases hb : b = a
      · exact ⟨hb, (Option.some.inj ((if_pos hb).symm.trans z)).symm⟩
      · exact nomatch ((if_neg hb).symm.trans z)
    refine endG (H := fun b => if b = a then some (.frz { cls := .type "list", data := .seq vs.toArray } (.lst (ns.map V.int))) else none) KX G.T.g G.T.b G.T.builtins G.T.nolimit hg hobj hr hF hb
      (hsp w _ a ns hlen (.inl (.inr ⟨_, if_pos rfl⟩)) fun b u z => ⟨(one b u z).1, _, _, (one b u z).2⟩) (fun b u z => ?_) fun b u z => ⟨(one b u z).1, hk, _, _, (one b u z).2⟩
    obtain ⟨rfl, rfl⟩ := one b u z
    exact ⟨hobj, by rw [List.length_map]; exact hl, vs, _, rv, hobj⟩

/-! ## repr of lists and tuples, one within another -/
mutual
/-- ints below 10 ^ k in size, no dict -/
def small (k : Nat) : PyData → Bool
  | .none | .bool _ | .str _ => true
  | .int i => decide (i.natAbs < 10 ^ k)
  | .list xs | .tuple xs => smallAll k xs
  | .dict _ => false
def smallAll (k : Nat) : List PyData → Bool
  | [] => true
  | x :: xs => small k x && smallAll k xs
end
mutual
/-- how many signs its text may have -/
def cost (k : Nat) : PyData → Nat
  | .none => 4
  | .bool _ => 5
  | .int _ => k + 1
  | .str s => (reprText s).length
  | .list xs | .tuple xs => costAll k xs + 4
  | .dict _ => 0
def costAll (k : Nat) : List PyData → Nat
  | [] => 0
  | x :: xs => cost k x + 2 + costAll k xs
end
theorem smallAll_iff {k : Nat} : ∀ {xs : List PyData}, smallAll k xs = true ↔ ∀ x ∈ xs, small k x = true
  | [] => by simp [smallAll]
  | x :: xs => by simp [smallAll, smallAll_iff (xs := xs)]
theorem costAll_le {k m : Nat} : ∀ {xs : List PyData}, (∀ x ∈ xs, cost k x ≤ m) → costAll k xs ≤ (m + 2) * xs.length
  | [], _ => Nat.zero_le _
  | x :: xs, h => by
    have h1 := h x List.mem_cons_self
    have h2 := costAll_le (m := m) fun y hy => h y (List.mem_cons_of_mem _ hy)
    show cost k x + 2 + costAll k xs ≤ (m + 2) * (xs.length + 1)
    rw [Nat.mul_add]
    omega
theorem textFrom_le : ∀ (ts : List Str) (k : Nat) (acc : Str), (textFrom k acc ts).length ≤ acc.length + piled ts
  | [], _, _ => by simp [textFrom, piled]
  | t :: r, k, acc => by
    have h := textFrom_le r (k + 1) (acc ++ (if k > 0 then ", " else "" : String) ++ t)
    have e : ((if k > 0 then ", " else "" : String) : Str).length ≤ 2 := by split <;> decide +kernel
    rw [strLen_append, strLen_append] at h
    rw [piled_cons]
    show (textFrom (k + 1) _ r).length ≤ _
    omega
theorem listText_le (ts : List Str) : (listText ts).length ≤ piled ts + 2 := by
  have h := textFrom_le ts 0 "["
  have e1 : (("[" : String) : Str).length = 1 := rfl
  have e2 : (("]" : String) : Str).length = 1 := rfl
  unfold listText
  rw [strLen_append, e2]
  omega
theorem tupleText_le (ts : List Str) : (tupleText ts).length ≤ piled ts + 4 := by
  have e3 : (((if ts.length == 1 then ",)" else ")" : String) : Str)).length ≤ 2 := by split <;> decide +kernel
  have e1 : ((("(" : String) : Str)).length = 1 := rfl
  unfold tupleText
  rw [strLen_append, strLen_append, e1]
  by_cases h : ts = []
  · subst h
    have e : (Str.join ", " []).length = 0 := rfl
    omega
  · have := join_length_add ts h
    omega
theorem int_le {i : Int} {k : Nat} (hk : 0 < k) (h : i.natAbs < 10 ^ k) : (Str.ofString (toString i)).length ≤ k + 1 := by
  rw [PySem.ofString_length]
  exact int_text_length_le10 hk h
mutual
theorem shown_le {k : Nat} (hk : 0 < k) : ∀ d : PyData, small k d = true → d.shown.length ≤ cost k d
  | .none, _ => (show (PyData.shown .none).length ≤ 4 by decide +kernel)
  | .bool b, _ => (show (PyData.shown (.bool b)).length ≤ 5 by cases b <;> decide +kernel)
  | .int i, h => by
    have h' : i.natAbs < 10 ^ k := by simpa [small] using h
    exact int_le hk h'
  | .str s, _ => Nat.le_refl _
  | .list xs, h => by
    have h1 := listText_le (PyData.shownAll xs)
    have h2 := shownAll_le hk xs (by simpa [small] using h)
    show (listText (PyData.shownAll xs)).length ≤ costAll k xs + 4
    omega
  | .tuple xs, h => by
    have h1 := tupleText_le (PyData.shownAll xs)
    have h2 := shownAll_le hk xs (by simpa [small] using h)
    show (tupleText (PyData.shownAll xs)).length ≤ costAll k xs + 4
    omega
  | .dict _, h => by simp [small] at h
theorem shownAll_le {k : Nat} (hk : 0 < k) : ∀ xs : List PyData, smallAll k xs = true → piled (PyData.shownAll xs) ≤ costAll k xs
  | [], _ => by simp [PyData.shownAll, piled]
  | x :: xs, h => by
    have h' : small k x = true ∧ smallAll k xs = true := by simpa [smallAll] using h
    have h1 := shown_le hk x h'.1
    have h2 := shownAll_le hk xs h'.2
    show piled (PyData.shown x :: PyData.shownAll xs) ≤ cost k x + 2 + costAll k xs
    rw [piled_cons]
    omega
end
theorem log_small {i : Int} {k : Nat} (hk : k ≤ 500) (h : i.natAbs < 10 ^ k) : i.natAbs.log2 < 1920 := by
  by_cases h0 : i.natAbs = 0
  · rw [h0]
    decide
  · rw [Nat.log2_lt h0]
    have h1 : 10 ^ k ≤ 10 ^ 500 := Nat.pow_le_pow_right (by decide) hk
    have h2 : (10 : Nat) ^ 500 < 2 ^ 1920 := by decide +kernel
    exact Nat.lt_of_lt_of_le h (Nat.le_trans h1 (Nat.le_of_lt h2))
mutual
theorem small_shows {k : Nat} (hk : k ≤ 500) : ∀ d : PyData, small k d = true → d.showable = true ∧ d.hasDict = false
  | .none, _ => by simp [PyData.showable, PyData.hasDict]
  | .bool b, _ => by simp [PyData.showable, PyData.hasDict]
  | .int i, h => by
    have h' : i.natAbs < 10 ^ k := by simpa [small] using h
    simp [PyData.showable, PyData.hasDict, log_small hk h']
  | .str s, _ => by simp [PyData.showable, PyData.hasDict]
  | .list xs, h => by simpa [PyData.showable, PyData.hasDict] using small_showsAll hk xs (by simpa [small] using h)
  | .tuple xs, h => by simpa [PyData.showable, PyData.hasDict] using small_showsAll hk xs (by simpa [small] using h)
  | .dict _, h => by simp [small] at h
theorem small_showsAll {k : Nat} (hk : k ≤ 500) : ∀ xs : List PyData, smallAll k xs = true → PyData.showableAll xs = true ∧ PyData.hasDictAll xs = false
  | [], _ => by simp [PyData.showableAll, PyData.hasDictAll]
  | x :: xs, h => by
    have h' : small k x = true ∧ smallAll k xs = true := by simpa [smallAll] using h
    have h1 := small_shows hk x h'.1
    have h2 := small_showsAll hk xs h'.2
    simp [PyData.showableAll, PyData.hasDictAll, h1, h2]
end
/-- repr of what is read as d: a list or a tuple -/
def rReprD (K : PySem.W.Frag) : List V → Hp → VK → Prop := fun xs H Q => ∃ (a : Addr) (d : PyData) (k : Nat), xs = [.ref a] ∧ Dp K H (.ref a) d ∧ d.depth ≤ 60 ∧ (0 < k ∧ k ≤ 500) ∧ small k d = true ∧ cost k d ≤ sizeLine ∧ Q (.str d.shown) H
theorem call_reprD {X : Cx} (hg : X.A.guards = some []) (hu : X.A.units + 64 < cLine) : CallR X (.builtin "repr") (rReprD X.K) := by
  intro pins s σ H vs us Q I r h
  obtain ⟨a, d, k, rfl, hd, hz, ⟨k0, k1⟩, hs, hc, q⟩ := h
  cases r with
  | cons r1 r2 =>
    cases r2
    cases r1
    obtain ⟨as, rd⟩ := Dp.reads I d _ _ hd rfl
    obtain ⟨s1, s2⟩ := small_shows k1 d hs
    exact repr_of_reads' rd s1 (PyData.noDict_hsm s2) hg (by omega) (fun _ _ e => e) (fun h' u tk kp => ⟨.str d.shown, H, I.kept kp, ⟨u, rfl⟩, q⟩) (Nat.le_trans (shown_le k0 d hs) hc)

/-! ## heaps: what is not in S stays; tuples and locked things stay always -/
structure Ch (S : List Addr) (H H' : Hp) : Prop where
  keep : ∀ b o, b ∉ S → H b = some o → H' b = some o
  tup : ∀ b xs, H b = some (.tup xs) → H' b = some (.tup xs)
  frz : ∀ b o u, H b = some (.frz o u) → H' b = some (.frz o u)
/-- a list that is read and never written: the script -/
def Fz (K : PySem.W.Frag) (H : Hp) (a : Addr) (xs : List V) : Prop := (∃ o, H a = some (.frz o (.lst xs))) ∨ ∀ H', SqL K H' a xs
section
variable {K : PySem.W.Frag} {S S' : List Addr} {H H' H1 H2 : Hp} {p q a l : Addr} {o u : HO} {xs ys : List V}
theorem Ch.refl : Ch S H H := ⟨fun _ _ _ h => h, fun _ _ h => h, fun _ _ _ h => h⟩
theorem Ch.trans (c : Ch S H H1) (d : Ch S H1 H2) : Ch S H H2 := ⟨fun b o n h => d.keep b o n (c.keep b o n h), fun b xs h => d.tup b xs (c.tup b xs h), fun b o u h => d.frz b o u (c.frz b o u h)⟩
theorem Ch.mono (c : Ch S H H') (h : ∀ b ∈ S, b ∈ S') : Ch S' H H' := ⟨fun b o n e => c.keep b o (fun z => n (h b z)) e, c.tup, c.frz⟩
theorem Ch.wide (c : Ch [] H H') : Ch S H H' := c.mono fun _ z => absurd z List.not_mem_nil
theorem Ch.lst (c : Ch [] H H') (h : H l = some o) : H' l = some o := c.keep l o List.not_mem_nil h
theorem Ch.but (c : Ch [p] H H') (h : H l = some o) (n : l ≠ p) : H' l = some o := c.keep l o (by simpa using n) h
theorem Ch.fz (c : Ch S H H') (h : Fz K H a xs) : Fz K H' a xs := by
  rcases h with ⟨o, h⟩ | h
  · exact .inl ⟨o, c.frz _ _ _ h⟩
  · exact .inr h
theorem Fz.sql (h : Fz K H a xs) : SqL K H a xs := by
  rcases h with ⟨o, h⟩ | h
  · exact .inl (.inr ⟨o, h⟩)
  · exact h H
theorem Ch.sqt (c : Ch S H H') (h : SqT K H a xs) : SqT K H' a xs := by
  rcases h with (h | ⟨o, h⟩) | h
  · exact .inl (.inl (c.tup _ _ h))
  · exact .inl (.inr ⟨o, c.frz _ _ _ h⟩)
  · exact .inr h
theorem Ch.sql (c : Ch [] H H') (h : SqL K H a xs) : SqL K H' a xs := by
  rcases h with (h | ⟨o, h⟩) | h
  · exact .inl (.inl (c.lst h))
  · exact .inl (.inr ⟨o, c.frz _ _ _ h⟩)
  · exact .inr h
theorem Ch.free (c : Ch [] H H') (h : H' l = none) : H l = none := by
  cases q : H l with
  | none => rfl
  | some o =>
    rw [c.lst q] at h
    cases h
theorem Ch.new (h : H p = none) : Ch S H (upd H p o) := by
  have k : ∀ b u, H b = some u → upd H p o b = some u := fun b u e => by
    rw [upd_ne (ne_of_none e h)]
    exact e
  exact ⟨fun b u _ e => k b u e, fun b xs e => k _ _ e, fun b o u e => k _ _ e⟩
/-- a list is changed -/
theorem Ch.put (h : H p = some (.lst xs)) : Ch [p] H (upd H p o) := by
  refine ⟨fun b u n e => ?_, fun b xs e => ?_, fun b o u e => ?_⟩
  · rw [upd_ne (by simpa using n)]
    exact e
  · rw [upd_ne (ne_of e h (by intro z; cases z))]
    exact e
  · rw [upd_ne (ne_of e h (by intro z; cases z))]
    exact e
/-- what is new beside H may change -/
theorem Ch.old (c : Ch S H H1) (h : H p = none) (d : Ch [p] H1 H2) : Ch S H H2 :=
  ⟨fun b u n e => d.but (c.keep b u n e) (ne_of_none e h), fun b xs e => d.tup b xs (c.tup b xs e), fun b o u e => d.frz b o u (c.frz b o u e)⟩
theorem Ch.old2 (c : Ch S H H1) (h : H p = none) (h' : H q = none) (d : Ch [p, q] H1 H2) : Ch S H H2 :=
  ⟨fun b u n e => d.keep b u (by simp only [List.mem_cons, List.not_mem_nil, or_false, not_or]; exact ⟨ne_of_none e h, ne_of_none e h'⟩) (c.keep b u n e), fun b xs e => d.tup b xs (c.tup b xs e), fun b o u e => d.frz b o u (c.frz b o u e)⟩
theorem ne_new (h : H l = some o) (h' : H p = none) : l ≠ p := ne_of_none h h'
end

/-! ## readings, from the left -/
section
variable {K : PySem.W.Frag} {σ : L2.St} {H : Hp} {Q : VK} {QB : Bool → Hp → Prop} {ta tb tc te : TE} {tt tu : TT} {x y v : V} {D : Ends} {s1 s2 : TS} {i j : Int} {n : Nat} {p a : Addr} {xs ys : List V}
theorem w_start {N : List Str} {vs : List V} {σ : L2.St} {t : TS} {D : Ends} {H : Hp} (e : start N vs = σ) (h : t D σ H) : t D (start N vs) H := e ▸ h
theorem w_var (h : σ[n]? = some (some v)) (q : Q v H) : tVar n σ H Q := ⟨v, h, q⟩
theorem w_var0 (q : Q v H) : tVar 0 (some v :: σ) H Q := ⟨v, rfl, q⟩
theorem w_varS {o : Option V} (h : tVar n σ H Q) : tVar (n + 1) (o :: σ) H Q := h
theorem w_c (q : Q v H) : tC v σ H Q := q
theorem w_op {r : R2} (h : ta σ H fun x H1 => tb σ H1 fun y H2 => r x y H2 Q) : tOp r ta tb σ H Q := h
theorem w_un {r : V → Hp → VK → Prop} (h : ta σ H fun x H1 => r x H1 Q) : tUn r ta σ H Q := h
theorem w_I0 {g : Int → Int → V} (q : Q (g i j) H) : rI0 g (.int i) (.int j) H Q := ⟨i, j, rfl, rfl, q⟩
theorem w_I {C : Int → Int → Prop} {g : Int → Int → V} (c : C i j) (q : Q (g i j) H) : rI C g (.int i) (.int j) H Q := ⟨i, j, rfl, rfl, c, q⟩
theorem w_U {g : Int → V} (q : Q (g i) H) : rU g (.int i) H Q := ⟨i, rfl, q⟩
theorem w_eqI (q : Q (.bl (decide (i = j))) H) : rEq (.int i) (.int j) H Q := ⟨rfl, by rw [show decide (V.int i = V.int j) = decide (i = j) by simp]; exact q⟩
theorem w_neI (q : Q (.bl (!decide (i = j))) H) : rNe (.int i) (.int j) H Q := ⟨rfl, by rw [show decide (V.int i = V.int j) = decide (i = j) by simp]; exact q⟩
theorem w_eqS {i j : Str} (q : Q (.bl (decide (i = j))) H) : rEq (.str i) (.str j) H Q := ⟨rfl, by rw [show decide (V.str i = V.str j) = decide (i = j) by simp]; exact q⟩
theorem w_neS {i j : Str} (q : Q (.bl (!decide (i = j))) H) : rNe (.str i) (.str j) H Q := ⟨rfl, by rw [show decide (V.str i = V.str j) = decide (i = j) by simp]; exact q⟩
theorem w_ixL (h : SqL K H p xs) (ha : atI xs i = some v) (q : Q v H) : rIxL K (.ref p) (.int i) H Q := ⟨p, xs, i, v, rfl, rfl, h, ha, q⟩
theorem w_ixT (h : SqT K H p xs) (ha : atI xs i = some v) (q : Q v H) : rIxT K (.ref p) (.int i) H Q := ⟨p, xs, i, v, rfl, rfl, h, ha, q⟩
theorem atI_int {ns : List Int} {i : Int} (h0 : 0 ≤ i) (h1 : i < ns.length) : atI (ns.map V.int) i = some (.int (ns.getD i.toNat 0)) := by
  have e : i = (i.toNat : Int) := by omega
  have hl : i.toNat < ns.length := by omega
  rw [e]
  refine atI_nat ?_
  rw [List.getElem?_map, Int.toNat_natCast, List.getElem?_eq_getElem hl, List.getD_eq_getElem?_getD, List.getElem?_eq_getElem hl]
  rfl
theorem w_ixLI {ns : List Int} (h : SqL K H p (ns.map V.int)) (h0 : 0 ≤ i) (h1 : i < ns.length) (q : Q (.int (ns.getD i.toNat 0)) H) : rIxL K (.ref p) (.int i) H Q := w_ixL h (atI_int h0 h1) q
theorem w_ixTI {ns : List Int} (h : SqT K H p (ns.map V.int)) (h0 : 0 ≤ i) (h1 : i < ns.length) (q : Q (.int (ns.getD i.toNat 0)) H) : rIxT K (.ref p) (.int i) H Q := w_ixT h (atI_int h0 h1) q
theorem w_test (h : te σ H fun x H' => ∃ k, x = .bl k ∧ QB k H') : tTest te σ H QB := h
theorem w_B (h : te σ H fun x H' => ∃ k, x = .bl k ∧ QB k H') : tB te σ H QB := h
theorem w_bl {b : Bool} {QB : Bool → Prop} (q : QB b) : ∃ k, V.bl b = .bl k ∧ QB k := ⟨b, rfl, q⟩
theorem w_and (h : tt σ H fun c H1 => if c = true then tu σ H1 QB else QB false H1) : tAnd tt tu σ H QB := h
theorem w_or (h : tt σ H fun c H1 => if c = true then QB true H1 else tu σ H1 QB) : tOr tt tu σ H QB := h
theorem w_not (h : tt σ H fun c H1 => QB (!c) H1) : tNot tt σ H QB := h
theorem w_notV (h : ta σ H fun x H1 => ∃ c, x = .bl c ∧ Q (.bl (!c)) H1) : tNotV ta σ H Q := h
theorem w_andV (h : ta σ H fun x H1 => ∃ c, x = .bl c ∧ if c = true then tb σ H1 Q else Q (.bl false) H1) : tAndV ta tb σ H Q := h
theorem w_orV (h : ta σ H fun x H1 => ∃ c, x = .bl c ∧ if c = true then Q (.bl true) H1 else tb σ H1 Q) : tOrV ta tb σ H Q := h
theorem w_ifE (h : tt σ H fun c H1 => if c = true then ta σ H1 Q else tb σ H1 Q) : tIf tt ta tb σ H Q := h
theorem w_ite {c : Prop} [Decidable c] {A B : Prop} (h1 : c → A) (h2 : ¬ c → B) : if decide c = true then A else B := by
  by_cases h : c
  · rw [if_pos (decide_eq_true h)]
    exact h1 h
  · rw [if_neg (by rw [decide_eq_false h]; decide)]
    exact h2 h
theorem w_itn {c : Prop} [Decidable c] {A B : Prop} (h1 : ¬ c → A) (h2 : c → B) : if (!decide c) = true then A else B := by
  by_cases h : c
  · rw [decide_eq_true h, if_neg (by decide)]
    exact h2 h
  · rw [decide_eq_false h, if_pos (by decide)]
    exact h1 h
theorem iteNT {A B : Prop} (h : B) : if (!true) = true then A else B := h
theorem iteNF {A B : Prop} (h : A) : if (!false) = true then A else B := h
theorem w_seq (h : s1 { D with nx := s2 D } σ H) : tSeq s1 s2 D σ H := h
/-- a word between a statement and the rest -/
theorem w_cut (M : L2.St → Hp → Prop) (h : s1 { D with nx := M } σ H) (k : ∀ σ' H', M σ' H' → s2 D σ' H') : tCut s1 s2 D σ H := ⟨M, h, k⟩
theorem w_next (h : D.nx σ H) : tNext D σ H := h
theorem w_if (h : tt σ H fun b H1 => if b = true then s1 D σ H1 else s2 D σ H1) : tIfS tt s1 s2 D σ H := h
theorem w_ret (h : te σ H D.rt) : tRet te D σ H := h
theorem w_drop (h : te σ H fun _ H1 => D.nx σ H1) : tDrop te D σ H := h
theorem w_asg {g : TG} (h : te σ H fun x H1 => g x σ H1 D.nx) : tAsg te g D σ H := h
theorem w_name {Qg : L2.St → Hp → Prop} (h : Qg (σ.set n (some v)) H) : gName n v σ H Qg := h
theorem w_unl {t : TGs} {Qg : L2.St → Hp → Prop} (h : SqL K H a xs) (hl : xs.length = n) (q : t xs σ H Qg) : gUnl K n t (.ref a) σ H Qg := ⟨a, xs, rfl, h, hl, q⟩
theorem w_gtup {t : TGs} {Qg : L2.St → Hp → Prop} (h : SqT K H a xs) (hl : xs.length = n) (q : t xs σ H Qg) : gTup K n t (.ref a) σ H Qg := ⟨a, xs, rfl, h, hl, q⟩
theorem w_gcons {t : TG} {u : TGs} {Qg : L2.St → Hp → Prop} (q : t v σ H fun σ' H' => u xs σ' H' Qg) : gCons t u (v :: xs) σ H Qg := ⟨v, xs, rfl, q⟩
theorem w_gnil {Qg : L2.St → Hp → Prop} (q : Qg σ H) : gNil [] σ H Qg := ⟨rfl, q⟩
theorem w_sub {to ti : TE} {t : TSet} {Qg : L2.St → Hp → Prop} (h : to σ H fun o H1 => ti σ H1 fun i H2 => t o i v H2 fun H3 => Qg σ H3) : gSub to ti t v σ H Qg := h
theorem w_setL {Qh : Hp → Prop} {k : Nat} (h : H p = some (.lst xs)) (hk : ixN xs.length i = some k) (q : ∀ H', Ch [p] H H' → H' p = some (.lst (xs.set k v)) → Qh H') : rSetL (.ref p) (.int i) v H Qh := ⟨p, xs, i, k, rfl, rfl, h, hk, q _ (.put h) upd_same⟩
theorem w_nilA {QA : List V → Hp → Prop} (q : QA [] H) : tNil σ H QA := q
theorem w_consA {tr : TA} {QA : List V → Hp → Prop} (h : te σ H fun x H1 => tr σ H1 fun xs H2 => QA (x :: xs) H2) : tCons te tr σ H QA := h
/-- a new object o is laid -/
def New (H : Hp) (o : HO) (Q : VK) : Prop := ∀ p, H p = none → Q (.ref p) (upd H p o)
theorem w_lst {t : TA} (h : t σ H fun xs H1 => xs.length ≤ sizeLine ∧ New H1 (.lst xs) Q) : tLst t σ H Q := h
theorem w_tup {t : TA} (h : t σ H fun xs H1 => xs.length ≤ sizeLine ∧ New H1 (.tup xs) Q) : tTup t σ H Q := h
/-- a new object: from then on the heap is a letter -/
theorem w_new {o : HO} (h : ∀ p H', H p = none → Ch [] H H' → H' p = some o → Q (.ref p) H') : New H o Q := fun p hp => h p _ hp (.new hp) upd_same
theorem w_newA {o : HO} (hz : n ≤ sizeLine) (h : ∀ p H', H p = none → Ch [] H H' → H' p = some o → Q (.ref p) H') : n ≤ sizeLine ∧ New H o Q := ⟨hz, w_new h⟩
theorem w_cb {r : List V → Hp → VK → Prop} {t : TA} (h : t σ H fun vs H1 => r vs H1 Q) : tCB r t σ H Q := h
theorem w_call {sp : Sp} {t : TA} (h : t σ H fun vs H1 => sp (vs ++ []) H1 Q E0) : tCall sp [] E0 t σ H Q := h
theorem w_sl {r : V → Option Int → Option Int → Hp → VK → Prop} {tl th : TO} (h : te σ H fun x H1 => tl σ H1 fun l H2 => th σ H2 fun u H3 => r x l u H3 Q) : tSl r te tl th σ H Q := h
theorem w_part {QO : Option Int → Hp → Prop} (h : te σ H fun x H1 => ∃ i, x = .int i ∧ QO (some i) H1) : tPart te σ H QO := h
theorem w_noPart {QO : Option Int → Hp → Prop} (h : QO none H) : tNoPart σ H QO := h
theorem w_int {QI : Int → Prop} (q : QI i) : ∃ k, V.int i = .int k ∧ QI k := ⟨i, rfl, q⟩
theorem w_slL {lo hi : Option Int} (h : SqL K H a xs) (q : ∀ p H', H p = none → Ch [] H H' → H' p = some (.lst (cutV xs lo hi)) → Q (.ref p) H') : rSlL K (.ref a) lo hi H Q := ⟨a, xs, rfl, h, w_new q⟩
theorem w_bm {T : String} {r : V → List V → Hp → VK → Prop} {t : TA} (h : te σ H fun x H1 => tyV K T x H1 ∧ t σ H1 fun xs H2 => r x xs H2 Q) : tBM K T r te t σ H Q := h
theorem w_tyL {A : Prop} (h : H p = some (.lst xs)) (q : A) : tyV K "list" (.ref p) H ∧ A := ⟨.inl ⟨rfl, _, SqL.of h⟩, q⟩
theorem w_app (h : H p = some (.lst xs)) (hz : xs.length < sizeLine) (q : ∀ H', Ch [p] H H' → H' p = some (.lst (xs ++ [v])) → Q .non H') : rAppend (.ref p) [v] H Q := ⟨p, xs, v, rfl, rfl, h, hz, q _ (.put h) upd_same⟩
end

/-! ## operators by named readings -/
section
variable {X : Cx} {H : Hp} {Q : VK} {i j : Int}
def rAdd : R2 := rI0 fun i j => .int (i + j)
def rSub : R2 := rI0 fun i j => .int (i - j)
def rMul : R2 := rI CMul fun i j => .int (i * j)
def rDiv : R2 := rI CDiv fun i j => .int (i / j)
def rMod : R2 := rI (fun _ j => 0 < j) fun i j => .int (i % j)
def rPow : R2 := rI CPow fun i j => .int (i ^ j.toNat)
def rShl : R2 := rI CPow fun i j => .int (i * 2 ^ j.toNat)
def rShr : R2 := rI (fun _ j => 0 ≤ j) fun i j => .int (i / 2 ^ j.toNat)
def rAnd : R2 := rI0 fun i j => .int (Builtin.bitAnd i j)
def rOr : R2 := rI0 fun i j => .int (Builtin.bitOr i j)
def rXor : R2 := rI0 fun i j => .int (Builtin.bitXor i j)
def rLt : R2 := rI0 fun i j => .bl (decide (i < j))
def rLe : R2 := rI0 fun i j => .bl (decide (i ≤ j))
def rGt : R2 := rI0 fun i j => .bl (decide (j < i))
def rGe : R2 := rI0 fun i j => .bl (decide (j ≤ i))
def rAddS : R2 := fun x y H Q => ∃ i j, x = .str i ∧ y = .str j ∧ i.length + j.length ≤ sizeLine ∧ Q (.str (i ++ j)) H
theorem o_add : OpR X (binaryOp .Add) rAdd := op_add
theorem o_sub : OpR X (binaryOp .Sub) rSub := op_sub
theorem o_mul : OpR X (binaryOp .Mult) rMul := op_mul
theorem o_div : OpR X (binaryOp .FloorDiv) rDiv := op_fdiv
theorem o_mod : OpR X (binaryOp .Mod) rMod := op_mod
theorem o_pow : OpR X (binaryOp .Pow) rPow := op_pow
theorem o_shl : OpR X (binaryOp .LShift) rShl := op_shl
theorem o_shr : OpR X (binaryOp .RShift) rShr := op_shr
theorem o_and : OpR X (binaryOp .BitAnd) rAnd := op_and
theorem o_or : OpR X (binaryOp .BitOr) rOr := op_or
theorem o_xor : OpR X (binaryOp .BitXor) rXor := op_xor
theorem o_lt : OpR X (compareOp .Lt) rLt := op_lt
theorem o_le : OpR X (compareOp .LtE) rLe := op_le
theorem o_gt : OpR X (compareOp .Gt) rGt := op_gt
theorem o_ge : OpR X (compareOp .GtE) rGe := op_ge
theorem o_adds : OpR X (binaryOp .Add) rAddS := op_add_str
theorem w_add (q : Q (.int (i + j)) H) : rAdd (.int i) (.int j) H Q := ⟨i, j, rfl, rfl, q⟩
theorem w_subt (q : Q (.int (i - j)) H) : rSub (.int i) (.int j) H Q := ⟨i, j, rfl, rfl, q⟩
theorem w_mul (c : CMul i j) (q : Q (.int (i * j)) H) : rMul (.int i) (.int j) H Q := ⟨i, j, rfl, rfl, c, q⟩
theorem w_div (c : 0 < j ∧ j < 1073741824) (q : Q (.int (i / j)) H) : rDiv (.int i) (.int j) H Q := ⟨i, j, rfl, rfl, c, q⟩
theorem w_mod (c : 0 < j) (q : Q (.int (i % j)) H) : rMod (.int i) (.int j) H Q := ⟨i, j, rfl, rfl, c, q⟩
theorem w_pow (c : CPow i j) (q : Q (.int (i ^ j.toNat)) H) : rPow (.int i) (.int j) H Q := ⟨i, j, rfl, rfl, c, q⟩
theorem w_shl (c : CPow i j) (q : Q (.int (i * 2 ^ j.toNat)) H) : rShl (.int i) (.int j) H Q := ⟨i, j, rfl, rfl, c, q⟩
theorem w_shr (c : 0 ≤ j) (q : Q (.int (i / 2 ^ j.toNat)) H) : rShr (.int i) (.int j) H Q := ⟨i, j, rfl, rfl, c, q⟩
theorem w_band (q : Q (.int (Builtin.bitAnd i j)) H) : rAnd (.int i) (.int j) H Q := ⟨i, j, rfl, rfl, q⟩
theorem w_bor (q : Q (.int (Builtin.bitOr i j)) H) : rOr (.int i) (.int j) H Q := ⟨i, j, rfl, rfl, q⟩
theorem w_bxor (q : Q (.int (Builtin.bitXor i j)) H) : rXor (.int i) (.int j) H Q := ⟨i, j, rfl, rfl, q⟩
theorem w_lt (q : Q (.bl (decide (i < j))) H) : rLt (.int i) (.int j) H Q := ⟨i, j, rfl, rfl, q⟩
theorem w_le (q : Q (.bl (decide (i ≤ j))) H) : rLe (.int i) (.int j) H Q := ⟨i, j, rfl, rfl, q⟩
theorem w_gt (q : Q (.bl (decide (j < i))) H) : rGt (.int i) (.int j) H Q := ⟨i, j, rfl, rfl, q⟩
theorem w_ge (q : Q (.bl (decide (j ≤ i))) H) : rGe (.int i) (.int j) H Q := ⟨i, j, rfl, rfl, q⟩
end

/-! ## built-ins by named readings -/
section
variable {X : Cx}
def rLenL (K : PySem.W.Frag) : List V → Hp → VK → Prop := fun xs H Q => ∃ p ys, xs = [.ref p] ∧ (SqL K H p ys ∨ SqT K H p ys) ∧ Q (.int ys.length) H
theorem cr_len : CallR X (.builtin "len") (rLenL X.K) := call_len_seq
def rAbs : List V → Hp → VK → Prop := fun xs H Q => ∃ i, xs = [.int i] ∧ Q (.int (if i < 0 then -i else i)) H
theorem cr_abs : CallR X (.builtin "abs") rAbs := call_abs
variable {K : PySem.W.Frag} {H : Hp} {Q : VK} {p : Addr} {xs : List V} {i : Int}
theorem w_lenL (h : SqL K H p xs) (q : Q (.int xs.length) H) : rLenL K [.ref p] H Q := ⟨p, xs, rfl, .inl h, q⟩
theorem w_lenT (h : SqT K H p xs) (q : Q (.int xs.length) H) : rLenL K [.ref p] H Q := ⟨p, xs, rfl, .inr h, q⟩
theorem w_abs (q : Q (.int (i.natAbs : Int)) H) : rAbs [.int i] H Q := ⟨i, rfl, by
  rw [show (if i < 0 then -i else i) = (i.natAbs : Int) by split <;> omega]
  exact q⟩
end

section
variable {X : Cx}
def rLenStr : List V → Hp → VK → Prop := fun xs H Q => ∃ z, xs = [.str z] ∧ z.length ≤ sizeLine ∧ Q (.int z.length) H
theorem cr_lenS : CallR X (.builtin "len") rLenStr := call_len_str
def rStr : List V → Hp → VK → Prop := fun xs H Q => ∃ i, xs = [.int i] ∧ i.natAbs.log2 < 1920 ∧ Q (.str (toString i)) H
theorem cr_str : CallR X (.type "str") rStr := call_str_int
def rIntB : List V → Hp → VK → Prop := fun xs H Q => (∃ i, xs = [.int i] ∧ Q (.int i) H) ∨ ∃ k, xs = [.bl k] ∧ Q (.int (if k then 1 else 0)) H
theorem cr_intB : CallR X (.type "int") rIntB := call_int1
def rListOf (K : PySem.W.Frag) : List V → Hp → VK → Prop := fun xs H Q => ∃ p ys, xs = [.ref p] ∧ (SqL K H p ys ∨ SqT K H p ys) ∧ ∀ l, H l = none → Q (.ref l) (upd H l (.lst ys))
theorem cr_list : CallR X (.type "list") (rListOf X.K) := call_list_of
def rTupOf (K : PySem.W.Frag) : List V → Hp → VK → Prop := fun xs H Q => ∃ p ys, xs = [.ref p] ∧ ((SqL K H p ys ∧ ∀ l, H l = none → Q (.ref l) (upd H l (.tup ys))) ∨ (SqT K H p ys ∧ Q (.ref p) H))
theorem cr_tuple : CallR X (.type "tuple") (rTupOf X.K) := call_tuple_of
variable {K : PySem.W.Frag} {H : Hp} {Q : VK} {p : Addr} {xs ys : List V} {i : Int} {σ : L2.St} {te : TE} {n : Nat}
theorem w_lenS {z : Str} (hz : z.length ≤ sizeLine) (q : Q (.int z.length) H) : rLenStr [.str z] H Q := ⟨z, rfl, hz, q⟩
theorem w_str (hz : i.natAbs.log2 < 1920) (q : Q (.str (toString i)) H) : rStr [.int i] H Q := ⟨i, rfl, hz, q⟩
theorem w_intB {b : Bool} (q : Q (.int (if b then 1 else 0)) H) : rIntB [.bl b] H Q := .inr ⟨b, rfl, q⟩
theorem w_listL (h : SqL K H p xs) (q : ∀ l H', H l = none → Ch [] H H' → H' l = some (.lst xs) → Q (.ref l) H') : rListOf K [.ref p] H Q := ⟨p, xs, rfl, .inl h, w_new q⟩
theorem w_listT (h : SqT K H p xs) (q : ∀ l H', H l = none → Ch [] H H' → H' l = some (.lst xs) → Q (.ref l) H') : rListOf K [.ref p] H Q := ⟨p, xs, rfl, .inr h, w_new q⟩
theorem w_tupL (h : SqL K H p xs) (q : ∀ l H', H l = none → Ch [] H H' → H' l = some (.tup xs) → Q (.ref l) H') : rTupOf K [.ref p] H Q := ⟨p, xs, rfl, .inl ⟨h, w_new q⟩⟩
theorem w_sum {ns : List Int} (h : SqL K H p (ns.map V.int)) (q : Q (.int ns.sum) H) : rSum K [.ref p] H Q := ⟨p, ns, rfl, h, q⟩
theorem w_all {bs : List Bool} (h : SqL K H p (bs.map V.bl)) (q : Q (.bl (bs.all id)) H) : rAll K [.ref p] H Q := ⟨p, bs, rfl, h, q⟩
theorem w_any {bs : List Bool} (h : SqL K H p (bs.map V.bl)) (q : Q (.bl (bs.any id)) H) : rAny K [.ref p] H Q := ⟨p, bs, rfl, h, q⟩
theorem w_cat {l b : Addr} (h : H l = some (.lst xs)) (h' : H b = some (.lst ys)) (hz : xs.length + ys.length ≤ sizeLine) (q : ∀ p H', H p = none → Ch [] H H' → H' p = some (.lst (xs ++ ys)) → Q (.ref p) H') : rCat (.ref l) (.ref b) H Q := ⟨l, b, xs, ys, rfl, rfl, h, h', hz, w_new q⟩
/-! ## loops -/
variable {ta : TA} {tu : TS} {tt : TT} {D : Ends} {j : Nat} {g : TG} {vs : List Nat} {R : It → Hp → Prop} {a : Addr}
/-- a range of a number, walked -/
def RngGo (xs : List V) (H : Hp) (R : It → Hp → Prop) : Prop := ∃ j : Int, xs = [.int j] ∧ -(2 ^ 62) ≤ j ∧ j < 2 ^ 62 ∧ R (Itr 0 j.toNat) H
def Rng2Go (xs : List V) (H : Hp) (R : It → Hp → Prop) : Prop := ∃ i j : Int, xs = [.int i, .int j] ∧ (-(2 ^ 62) ≤ i ∧ i < 2 ^ 62 ∧ -(2 ^ 62) ≤ j ∧ j < 2 ^ 62) ∧ R (Itr i (j - i).toNat) H
/-- a list, a tuple, walked -/
def LstGo (K : PySem.W.Frag) (x : V) (H : Hp) (R : It → Hp → Prop) : Prop := ∃ a, x = .ref a ∧ (∃ xs, SqL K H a xs) ∧ R (Itl K a) H
def TupGo (K : PySem.W.Frag) (x : V) (H : Hp) (R : It → Hp → Prop) : Prop := ∃ a, x = .ref a ∧ (∃ xs, SqT K H a xs) ∧ R (Itt K a) H
def ForGo (J : It) (g : TG) (tu : TS) (D : Ends) (σ : L2.St) (H : Hp) : Prop := ∃ W : Nat → Nat → L2.St → Hp → Prop, (∃ m, W 0 m σ H) ∧ ∀ i m σ H, W i m σ H →
    (J.stop i H ∧ D.nx σ H) ∨ (J.go i H ∧ ∃ N : L2.St → Hp → Prop, (∀ σ' H', N σ' H' → ∃ m', m' < m ∧ W (i + 1) m' σ' H') ∧ ∀ x H', J.yld i H x H' → g x σ H' fun σ2 H2 => tu { D with nx := N, ct := N, bk := D.nx } σ2 H2)
def LcGo (J : It) (g : TG) (tt : TT) (te : TE) (vs : List Nat) (σ : L2.St) (H : Hp) (Q : VK) : Prop := ∀ L, H L = none → ∃ W : Nat → Nat → Hp → Prop, (∃ m, W 0 m (upd H L (.lst []))) ∧ ∀ i m H, W i m H →
    (J.stop i H ∧ Q (.ref L) H) ∨ (J.go i H ∧ ∃ Nx : Hp → Prop, (∀ H', Nx H' → ∃ m', m' < m ∧ W (i + 1) m' H') ∧ ∀ x H', J.yld i H x H' → g x (wipe σ vs) H' fun σ2 H2 => wipe σ2 vs = wipe σ vs ∧ tt σ2 H2 fun b H3 =>
      if b = true then te σ2 H3 fun y H4 => ∃ acc, H4 L = some (.lst acc) ∧ acc.length < sizeLine ∧ Nx (upd H4 L (.lst (acc ++ [y]))) else Nx H3)
theorem w_rng1 (h : ta σ H fun vs H1 => RngGo vs H1 R) : iRng1 ta σ H R := h
theorem w_rng2 (h : ta σ H fun vs H1 => Rng2Go vs H1 R) : iRng2 ta σ H R := h
theorem w_iL (h : te σ H fun x H1 => LstGo K x H1 R) : iList K te σ H R := h
theorem w_iT (h : te σ H fun x H1 => TupGo K x H1 R) : iTup K te σ H R := h
theorem w_rngN {n : Nat} (e : i = (n : Int)) (hn : n ≤ 1000000000) (h : R (Itr 0 n) H) : RngGo [.int i] H R := by
  subst e
  exact ⟨_, rfl, by omega, by omega, h⟩
theorem w_rng2N {lo : Int} {n : Nat} (e : i = lo + (n : Int)) (h0 : -1000000000 ≤ lo) (h1 : lo ≤ 1000000000) (hn : n ≤ 1000000000) (h : R (Itr lo n) H) : Rng2Go [.int lo, .int i] H R := by
  subst e
  refine ⟨_, _, rfl, by omega, ?_⟩
  rw [show (lo + (n : Int) - lo).toNat = n by omega]
  exact h
theorem w_goL (h : SqL K H a xs) (q : R (Itl K a) H) : LstGo K (.ref a) H R := ⟨a, rfl, ⟨xs, h⟩, q⟩
theorem w_goT (h : SqT K H a xs) (q : R (Itt K a) H) : TupGo K (.ref a) H R := ⟨a, rfl, ⟨xs, h⟩, q⟩
theorem w_for {wi : TI} (h : wi σ H fun J H1 => ForGo J g tu D σ H1) : tFor wi g tu D σ H := h
theorem w_lc {wi : TI} (h : wi σ H fun J H1 => LcGo J g tt te vs σ H1 Q) : tLc wi g tt te vs σ H Q := h
/-- for name in range(n), by what holds ahead of turn i -/
theorem w_forR {n : Nat} (Pv : Nat → L2.St → Hp → Prop) (h0 : Pv 0 σ H) (hs : ∀ (i : Nat) σ' H', i < n → Pv i σ' H' → tu { D with nx := Pv (i + 1), ct := Pv (i + 1), bk := D.nx } (σ'.set j (some (.int (i : Int)))) H') (hd : ∀ σ' H', Pv n σ' H' → D.nx σ' H') :
    ForGo (Itr 0 n) (gName j) tu D σ H :=
  for_range (lo := 0) (n := n) Pv h0 (fun i σ' H' hi p => by
    show tu { D with nx := Pv (i + 1), ct := Pv (i + 1), bk := D.nx } (σ'.set j (some (.int ((0 : Int) + (i : Int))))) H'
    rw [Int.zero_add]
    exact hs i σ' H' hi p) hd
theorem w_forR2 {n : Nat} {lo : Int} (Pv : Nat → L2.St → Hp → Prop) (h0 : Pv 0 σ H) (hs : ∀ (i : Nat) σ' H', i < n → Pv i σ' H' → tu { D with nx := Pv (i + 1), ct := Pv (i + 1), bk := D.nx } (σ'.set j (some (.int (lo + (i : Int))))) H') (hd : ∀ σ' H', Pv n σ' H' → D.nx σ' H') :
    ForGo (Itr lo n) (gName j) tu D σ H := for_range (lo := lo) (n := n) Pv h0 hs hd
/-- over a tuple, a list -/
theorem w_forT (Pv : Nat → L2.St → Hp → Prop) (h0 : Pv 0 σ H) (hl : ∀ i σ' H', i ≤ xs.length → Pv i σ' H' → SqT K H' a xs)
    (hs : ∀ i x σ' H', xs[i]? = some x → Pv i σ' H' → g x σ' H' fun σ2 H2 => tu { D with nx := Pv (i + 1), ct := Pv (i + 1), bk := D.nx } σ2 H2) (hd : ∀ σ' H', Pv xs.length σ' H' → D.nx σ' H') : ForGo (Itt K a) g tu D σ H := for_tup Pv h0 hl hs hd
theorem w_forL (Pv : Nat → L2.St → Hp → Prop) (h0 : Pv 0 σ H) (hl : ∀ i σ' H', i ≤ xs.length → Pv i σ' H' → SqL K H' a xs)
    (hs : ∀ i x σ' H', xs[i]? = some x → Pv i σ' H' → g x σ' H' fun σ2 H2 => tu { D with nx := Pv (i + 1), ct := Pv (i + 1), bk := D.nx } σ2 H2) (hd : ∀ σ' H', Pv xs.length σ' H' → D.nx σ' H') : ForGo (Itl K a) g tu D σ H := for_list Pv h0 hl hs hd
/-- what is made so far -/
def Lc (Pv : Addr → Nat → List V → Hp → Prop) (L : Addr) (i : Nat) (H : Hp) : Prop := ∃ acc, H L = some (.lst acc) ∧ acc.length ≤ i ∧ Pv L i acc H
/-- an item is put behind -/
theorem w_lcput {Pv : Addr → Nat → List V → Hp → Prop} {L : Addr} {i : Nat} {acc : List V} {y : V} (h : H L = some (.lst acc)) (ha : acc.length ≤ i) (hi : i < 10000000) (k : ∀ H5, Ch [L] H H5 → H5 L = some (.lst (acc ++ [y])) → Pv L (i + 1) (acc ++ [y]) H5) :
    ∃ acc, H L = some (.lst acc) ∧ acc.length < sizeLine ∧ Lc Pv L (i + 1) (upd H L (.lst (acc ++ [y]))) :=
  ⟨acc, h, by rw [sizeLine_eq]; omega, acc ++ [y], upd_same, by rw [List.length_append, List.length_singleton]; omega, k _ (.put h) upd_same⟩
/-- a turn that gives nothing -/
theorem w_lcskip {Pv : Addr → Nat → List V → Hp → Prop} {L : Addr} {i : Nat} {acc : List V} (h : H L = some (.lst acc)) (ha : acc.length ≤ i) (k : Pv L (i + 1) acc H) : Lc Pv L (i + 1) H := ⟨acc, h, by omega, k⟩
/-- the turn of a comprehension: its test, then its element, put behind what is made so far -/
def LcTurn (Pv : Addr → Nat → List V → Hp → Prop) (tt : TT) (te : TE) (L : Addr) (i : Nat) (σ2 : L2.St) (H : Hp) : Prop := tt σ2 H fun b H3 =>
  if b = true then te σ2 H3 fun y H4 => ∃ acc, H4 L = some (.lst acc) ∧ acc.length < sizeLine ∧ Lc Pv L (i + 1) (upd H4 L (.lst (acc ++ [y]))) else Lc Pv L (i + 1) H3
theorem w_turnY {Pv : Addr → Nat → List V → Hp → Prop} {L : Addr} {i : Nat} {σ2 : L2.St} (h : te σ2 H fun y H4 => ∃ acc, H4 L = some (.lst acc) ∧ acc.length < sizeLine ∧ Lc Pv L (i + 1) (upd H4 L (.lst (acc ++ [y])))) : LcTurn Pv tYes te L i σ2 H := h
theorem w_turn {Pv : Addr → Nat → List V → Hp → Prop} {L : Addr} {i : Nat} {σ2 : L2.St} (h : tt σ2 H fun b H3 =>
  if b = true then te σ2 H3 fun y H4 => ∃ acc, H4 L = some (.lst acc) ∧ acc.length < sizeLine ∧ Lc Pv L (i + 1) (upd H4 L (.lst (acc ++ [y]))) else Lc Pv L (i + 1) H3) : LcTurn Pv tt te L i σ2 H := h
/-- a comprehension over range(n): Pv L i acc H', the list so far acc -/
theorem w_lcR {n : Nat} (Pv : Addr → Nat → List V → Hp → Prop) (h0 : ∀ L H', H L = none → Ch [] H H' → H' L = some (.lst []) → Pv L 0 [] H')
    (hw : ∀ x, wipe ((wipe σ vs).set j (some x)) vs = wipe σ vs)
    (hs : ∀ L (i : Nat) acc H', H L = none → i < n → acc.length ≤ i → H' L = some (.lst acc) → Pv L i acc H' → LcTurn Pv tt te L i ((wipe σ vs).set j (some (.int (i : Int)))) H')
    (hd : ∀ L acc H', H L = none → H' L = some (.lst acc) → Pv L n acc H' → Q (.ref L) H') :
    LcGo (Itr 0 n) (gName j) tt te vs σ H Q := fun L hL =>
  lc_range (lo := 0) (n := n) (Lc Pv L) ⟨[], upd_same, Nat.le_refl _, h0 L _ hL (.new hL) upd_same⟩ (fun i H' hi p => by
    obtain ⟨acc, h1, h2, h3⟩ := p
    have e0 : (0 : Int) + (i : Int) = (i : Int) := Int.zero_add _
    rw [e0]
    exact ⟨hw _, hs L i acc H' hL hi h2 h1 h3⟩) (fun H' p => by
    obtain ⟨acc, h1, h2, h3⟩ := p
    exact hd L acc H' hL h1 h3)
theorem w_lcR2 {n : Nat} {lo : Int} (Pv : Addr → Nat → List V → Hp → Prop) (h0 : ∀ L H', H L = none → Ch [] H H' → H' L = some (.lst []) → Pv L 0 [] H')
    (hw : ∀ x, wipe ((wipe σ vs).set j (some x)) vs = wipe σ vs)
    (hs : ∀ L (i : Nat) acc H', H L = none → i < n → acc.length ≤ i → H' L = some (.lst acc) → Pv L i acc H' → LcTurn Pv tt te L i ((wipe σ vs).set j (some (.int (lo + (i : Int))))) H')
    (hd : ∀ L acc H', H L = none → H' L = some (.lst acc) → Pv L n acc H' → Q (.ref L) H') :
    LcGo (Itr lo n) (gName j) tt te vs σ H Q := fun L hL =>
  lc_range (lo := lo) (n := n) (Lc Pv L) ⟨[], upd_same, Nat.le_refl _, h0 L _ hL (.new hL) upd_same⟩ (fun i H' hi p => by
    obtain ⟨acc, h1, h2, h3⟩ := p
    exact ⟨hw _, hs L i acc H' hL hi h2 h1 h3⟩) (fun H' p => by
    obtain ⟨acc, h1, h2, h3⟩ := p
    exact hd L acc H' hL h1 h3)
theorem w_lcT (Pv : Addr → Nat → List V → Hp → Prop) (h0 : ∀ L H', H L = none → Ch [] H H' → H' L = some (.lst []) → Pv L 0 [] H')
    (hw : ∀ x, wipe ((wipe σ vs).set j (some x)) vs = wipe σ vs) (hl : ∀ L i acc H', H L = none → H' L = some (.lst acc) → Pv L i acc H' → SqT K H' a xs)
    (hs : ∀ L (i : Nat) x acc H', H L = none → xs[i]? = some x → acc.length ≤ i → H' L = some (.lst acc) → Pv L i acc H' → LcTurn Pv tt te L i ((wipe σ vs).set j (some x)) H')
    (hd : ∀ L acc H', H L = none → H' L = some (.lst acc) → Pv L xs.length acc H' → Q (.ref L) H') :
    LcGo (Itt K a) (gName j) tt te vs σ H Q := fun L hL =>
  lc_tup (xs := xs) (Lc Pv L) ⟨[], upd_same, Nat.le_refl _, h0 L _ hL (.new hL) upd_same⟩ (fun i H' _ p => by
    obtain ⟨acc, h1, h2, h3⟩ := p
    exact hl L i acc H' hL h1 h3) (fun i x H' hi p => by
    obtain ⟨acc, h1, h2, h3⟩ := p
    exact ⟨hw _, hs L i x acc H' hL hi h2 h1 h3⟩) (fun H' p => by
    obtain ⟨acc, h1, h2, h3⟩ := p
    exact hd L acc H' hL h1 h3)
theorem w_lcL (Pv : Addr → Nat → List V → Hp → Prop) (h0 : ∀ L H', H L = none → Ch [] H H' → H' L = some (.lst []) → Pv L 0 [] H')
    (hw : ∀ x, wipe ((wipe σ vs).set j (some x)) vs = wipe σ vs) (hl : ∀ L i acc H', H L = none → H' L = some (.lst acc) → Pv L i acc H' → SqL K H' a xs)
    (hs : ∀ L (i : Nat) x acc H', H L = none → xs[i]? = some x → acc.length ≤ i → H' L = some (.lst acc) → Pv L i acc H' → LcTurn Pv tt te L i ((wipe σ vs).set j (some x)) H')
    (hd : ∀ L acc H', H L = none → H' L = some (.lst acc) → Pv L xs.length acc H' → Q (.ref L) H') :
    LcGo (Itl K a) (gName j) tt te vs σ H Q := fun L hL =>
  lc_list (xs := xs) (Lc Pv L) ⟨[], upd_same, Nat.le_refl _, h0 L _ hL (.new hL) upd_same⟩ (fun i H' _ p => by
    obtain ⟨acc, h1, h2, h3⟩ := p
    exact hl L i acc H' hL h1 h3) (fun i x H' hi p => by
    obtain ⟨acc, h1, h2, h3⟩ := p
    exact ⟨hw _, hs L i x acc H' hL hi h2 h1 h3⟩) (fun H' p => by
    obtain ⟨acc, h1, h2, h3⟩ := p
    exact hd L acc H' hL h1 h3)
/-- a local's def is called -/
theorem w_callF {P : Program} {w : World} {mg : Str → Option Value} {base : Heap} {k : Nat} {f : Addr} {sp : Sp} (h : σ[n]? = some (some (.ref f))) (A : Held P w K mg base k f sp) (q : ta σ H fun vs H1 => sp vs H1 Q E0) : tCallF P w K mg base k n ta σ H Q := ⟨f, sp, h, A, q⟩
end

/-! ## by_size, called by sorted -/
/-- the text of by_size -/
structure SizeTxt (st : Stmt) : Prop where
  args : ∃ p, defArgs st = { posonlyargs := [], args := [{ arg := "face", annotation := none, pos := p }], vararg := none, kwonlyargs := [], kw_defaults := [], kwarg := none, defaults := [] }
  body : ∃ p1 p2 p3 p4 p5 p6 n, defBody st = [.Return (some (.Tuple [.Call (.Name "len" p1) [.Name "face" p2] [] p3, .Name "face" p4] n p5)) p6]
  sc : ∃ more, defScope st = { kind := .function, names := [(PySem.Str.ofString "face", .local), (PySem.Str.ofString "len", .globalImplicit)], isGenerator := false, isCoroutine := false, more := more }
section
variable {P : Program} {w : World} {K : PySem.W.Frag} {mg mb : Str → Option Value} {f t : Addr} {fd : FuncData} {st : Stmt} {A : Around} {s : Shared} {its : List Value} {ns : List Int}
theorem size_raw (F : Fun K "by_size" "by_size" st f fd) (S : SizeTxt st) (X : K.In s.heap) (hl : s.heap.NoLimit) (hg : s.heap.Ns mainGlobals mg) (hb : s.heap.Ns builtinsNs mb) (hbb : ∀ x : Str, x ≠ "__name__" → mb x = bootBuiltins x) (hm : mg "len" = none)
    (hd : A.depth < recursionLimit) (ht : IsTup s.heap t its.toArray) (hi : IntsAre its ns) (hz : its.length ≤ 1000000) :
    wpAny (model P w) A (call (.ref f) [.ref t]) (PySem.W.KeyPure (.tuple [.int ns.length, .tuple (ns.map .int)]) s) (fun _ _ => False) s := by
  obtain ⟨oc, od, kV, doc, pm, an, cdv, ct, osl, rfl, lk, hcd⟩ := F.ex
  obtain ⟨pa, ea⟩ := S.args
  obtain ⟨p1, p2, p3, p4, p5, p6, n, eb⟩ := S.body
  obtain ⟨more, es⟩ := S.sc
  rw [ea, eb, es] at lk
  refine wpAny_call (Att.call_fn (binds := [("face", .ref t)]) X hl lk hcd hd (BindsTo.of_eq rfl) rfl (fun s1 IC => ?_) rfl rfl rfl)
  obtain ⟨h1, tk1, rfl⟩ := IC.toInCall.same
  have k1 := IC.toInCall.keep
  have hn := IC.toInCall.ns
  have hsz : (its.toArray.size : Int) < 2 ^ 63 := by
    rw [List.size_toArray]
    omega
  refine wpAny_execs_cons (wpAny_Return_some (wpAny_Tuple_spliced ?_))
  refine Calls.spliced_cons (wpAny_Call_Name_kw (Calls.Name_function_global rfl rfl (Calls.loadGlobal_builtin (hg.keeps k1) hm (hb.keeps k1) ((hbb _ (by decide)).trans PySem.boot_len) ?_)))
  refine PyProof.Rows.callWith_builtin1 (Calls.spliced_cons (wpAny_Name (wpAny_loadName_local rfl rfl hn (by rfl) (Calls.spliced_nil ?_)))) rfl rfl
  refine PyProof.Rows.len_tuple (ht.keeps k1) hsz ?_
  refine Calls.spliced_cons (wpAny_Name (wpAny_loadName_local rfl rfl hn (by rfl) (Calls.spliced_nil ⟨by show 2 ≤ sizeLine; decide, ?_⟩)))
  have e1 : ((h1.push { cls := .type "tuple", data := .seq [Value.int its.toArray.size (tk1 + 1), .ref t].toArray } : Heap).get? t).isSome = true := by
    obtain ⟨o, ho, _⟩ := ht.keeps k1
    rw [Heap.get?_push_of_some _ ho]
    rfl
  refine ⟨_, _, rfl, fun b o e => Heap.get?_push_of_some _ (k1 b o e), ?_⟩
  obtain ⟨o, ho, hc, m, hdat⟩ := ht.keeps k1
  refine Reads.tuple (as := [] ++ ([] ++ [])) (Heap.get?_push_size _ rfl) rfl rfl (.cons ?_ (.cons ?_ .nil))
  · rw [List.size_toArray, hi.length]
    exact Reads.int _ _
  · exact Reads.tuple (Heap.get?_push_of_some _ ho) hc hdat (PyProof.Rows.IntsAre.reads _ hi)
end
/-- by size, then rising -/
def faceLe (p q : List Int) : Bool := decide (p.length < q.length ∨ (p.length = q.length ∧ p ≤ q))
def sizeKey (b : Addr × List Int) : PyData := .tuple [.int b.2.length, .tuple (b.2.map .int)]
theorem eqv_ints : ∀ xs ys : List Int, PyData.eqv (.tuple (xs.map .int)) (.tuple (ys.map .int)) = decide (xs = ys) := by
  have h : ∀ xs ys : List Int, PyData.eqvAll (xs.map .int) (ys.map .int) = decide (xs = ys) := by
    intro xs
    induction xs with
    | nil =>
      intro ys
      cases ys with
      | nil => simp [PyData.eqvAll]
      | cons y ys => simp [PyData.eqvAll]
    | cons x xs ih =>
      intro ys
      cases ys with
      | nil => simp [PyData.eqvAll]
      | cons y ys =>
        simp only [List.map_cons, PyData.eqvAll, ih ys, PyData.eqv]
        by_cases h1 : x = y <;> by_cases h2 : xs = ys <;> simp [h1, h2]
  intro xs ys
  simp only [PyData.eqv, h]
theorem sizeLt (n m : Int) (xs ys : List Int) : PySem.W.dataLt (.tuple [.int n, .tuple (xs.map .int)]) (.tuple [.int m, .tuple (ys.map .int)]) = decide (n < m ∨ (n = m ∧ xs < ys)) := by
  rw [PySem.W.dataLt_pair (by simp [PySem.W.alike]) (by simp [PySem.W.alike, PySem.W.alike_ints]), PySem.W.dataLt_int, PySem.W.dataLt_tuple, eqv_ints]
  have e := PySem.W.dataLt_ints xs ys
  unfold PySem.W.rowLt at e
  rw [e]
  by_cases h1 : n = m
  · subst h1
    by_cases h2 : xs = ys
    · subst h2
      simp [PyData.eqv, List.lt_irrefl]
    · simp [PyData.eqv, h2]
  · simp [PyData.eqv, h1]
theorem sizeLe : PySem.W.dataLe false sizeKey = fun p q => faceLe p.2 q.2 := by
  funext p q
  show (!PySem.W.dataLt (sizeKey q) (sizeKey p)) = _
  unfold sizeKey faceLe
  rw [sizeLt]
  by_cases h : q.2 < p.2
  · have h' : ¬ p.2 ≤ q.2 := fun r => List.not_lt.mpr r h
    by_cases h1 : p.2.length < q.2.length
    · simp [h1]
      omega
    · by_cases h2 : p.2.length = q.2.length
      · simp [h, h', h2]
      · simp [h1, h2]
        omega
  · have h' : p.2 ≤ q.2 := List.not_lt.mp h
    by_cases h1 : p.2.length < q.2.length
    · simp [h1]
      omega
    · by_cases h2 : p.2.length = q.2.length
      · simp [h, h', h2]
      · simp [h1, h2]
        omega
/-- sorted(xs, key=by_size), xs tuples of ints -/
def rSortSz (K : PySem.W.Frag) (f : Addr) : List V → List V → Hp → VK → Prop := fun vs zs H Q => ∃ (a : Addr) (bs : List (Addr × List Int)), vs = [.ref a] ∧ zs = [.ref f] ∧ SqL K H a (bs.map fun b => .ref b.1) ∧ (∀ b ∈ bs, SqT K H b.1 (b.2.map V.int)) ∧
  bs.length ≤ 1000000 ∧ (∀ b ∈ bs, b.2.length ≤ 1000000) ∧ New H (.lst ((bs.mergeSort fun p q => faceLe p.2 q.2).map fun b => .ref b.1)) Q
section
variable {X : Cx} {f : Addr} {fd : FuncData} {st : Stmt} {k : Nat}
theorem each_refs : ∀ {bs : List (Addr × List Int)} {its : List Value}, Vals (bs.map fun b => V.ref b.1) its → PySem.W.EachIs (fun v (b : Addr × List Int) => v = .ref b.1) its bs
  | [], _, r => by
    cases r
    exact .nil
  | b :: bs, _, r => by
    cases r with
    | cons r1 r2 => exact .cons r1 (each_refs r2)
theorem refs_each : ∀ {bs : List (Addr × List Int)} {its : List Value}, PySem.W.EachIs (fun v (b : Addr × List Int) => v = .ref b.1) its bs → Vals (bs.map fun b => V.ref b.1) its
  | _, _, .nil => .nil
  | _, _, .cons r1 r2 => .cons r1 (refs_each r2)
theorem depth_size (b : Addr × List Int) : (sizeKey b).depth ≤ 3 := by
  have h := PySem.W.depth_ints b.2
  simp only [sizeKey, PyData.depth, PyData.depthAll, h]
  decide
theorem cr_sortSz (F : Fun X.K "by_size" "by_size" st f fd) (S : SizeTxt st) (hm : X.mg "len" = none) (hr : Room k X.A) : CallRK X (.builtin "sorted") [Str.ofString "key"] (rSortSz X.K f) := by
  intro pins s σ H vs zs us ws Q I r1 r2 h
  obtain ⟨a, bs, rfl, rfl, hq, ht, hz, hz2, q⟩ := h
  cases r1 with
  | cons r1 r1' =>
  cases r1'
  cases r1
  cases r2 with
  | cons r2 r2' =>
  cases r2'
  cases r2
  obtain ⟨its, rv, hl, _⟩ := I.list hq
  have hu := hr.units
  refine PySem.W.sorted_key_data (b := false) sizeKey hl.isList (each_refs rv) (PySem.W.AllAlike.of fun b b' => ?_) (PySem.W.Sortable.tuples fun b => ⟨_, _, rfl⟩) (by rw [sizeLine_eq]; omega) (fun b _ => ?_) (ksk_s1 _ _) (fun _ => ksk_l1 _ _) (fun _ => ksk_t1 _ _) (fun v b hv hb h tk kp => ?_) fun out c h' tk kp fr ho lo eo => ?_
  · simp [sizeKey, PySem.W.alike, PySem.W.alikeAll, PySem.W.alike_ints]
  · have := depth_size b
    omega
  · subst hv
    obtain ⟨ts, rt, htu, _⟩ := I.tuple (ht b hb)
    obtain ⟨mb, m1, m2⟩ := I.mod.blt
    have kb : ∀ a o, X.base.get? a = some o → h.get? a = some o := fun a o e => kp a o (I.bk a o e)
    refine size_raw (s := { s with heap := h, toks := tk }) F S (I.kIn.keeps kp) (I.nolimit.keeps kp) (I.mod.glob.keeps kb) (m1.keeps kb) m2 hm hr.depth (htu.keeps kp) (intsAre_of rt) ?_
    rw [← rt.length, List.length_map]
    exact hz2 b hb
  · rw [sizeLe] at eo
    have hf : H (s.heap.objs.size + 1) = none := I.hok.fresh (Nat.le_succ _)
    refine ⟨.ref (s.heap.objs.size + 1), upd H (s.heap.objs.size + 1) (.lst ((bs.mergeSort fun p q => faceLe p.2 q.2).map fun b => .ref b.1)), I.laid kp (Nat.le_succ _) ?_, rfl, q _ hf⟩
    refine ⟨by rw [List.length_map, List.length_mergeSort, sizeLine_eq]; omega, out, c, refs_each eo, ho⟩
end

/-! ## set(xs), xs a list of ints, as a set that may be walked and sorted -/
section
variable {P : Program} {w : World} {A : Around} {E : Value → Shared → Prop} {s : Shared}
/-- an empty set's object -/
abbrev noSet (w : World) : Obj := { cls := .type "set", dict := none, data := .set #[] 0 (.fresh 0 0 (!w.params.followText "set-order")) }
/-- set.__init__ of a new set at the heap's end, from a list of ints -/
theorem init_list {l : Addr} {items : Array Value} (ns : List Int) {B : Around} (hh : B.in1.in1.handled = none) (hl : s.heap.IsList l items) (hit : IntsAre items.toList ns) (hb : ns.length + 1 < scanBound) {R : PySem.Fin → Shared → Prop} {F' : Value → Shared → Prop}
    (h : ∀ (h' : Heap) (tk c : Nat), SetR w h' s.heap.objs.size (fun j => decide (j ∈ ns)) c → c ≤ ns.length → (∀ b o, s.heap.get? b = some o → h'.get? b = some o) → R (.done (.ret .none)) { s with heap := h', toks := tk }) :
    wpAny (model P w) B.in1 (Builtin.«set.__init__» ⟨[.ref s.heap.objs.size, .ref l], []⟩) R F' { s with heap := s.heap.push (noSet w) } := by
  have hisz : items.size = ns.length := (Array.length_toList (xs := items)).symm.trans (IntsAre.length hit)
  have hS : (s.heap.push (noSet w)).get? s.heap.objs.size = some (noSet w) := Heap.get?_push_size _ rfl
  obtain ⟨⟨ocls, odict, odata, oslots⟩, hol, hcl, nl, hdl⟩ := hl
  obtain rfl : ocls = .type "list" := hcl
  obtain rfl : odata = .seq items nl := hdl
  have hol' : (s.heap.push (noSet w)).get? l = some { cls := .type "list", dict := odict, data := .seq items nl, slots := oslots } := Heap.get?_push_of_some _ hol
  have hsls := F.sub_list_set
  have hslf := F.sub_list_frozenset
  have hne : (Value.type "list" == Value.type "dict") = false := by decide
  have hl1 : (s.heap.push (noSet w)).IsList l items := ⟨_, hol', rfl, nl, rfl⟩
  unfold Builtin.«set.__init__» noKeywords Builtin.Frozenset.updateFrom
  generalize hPI : pyIter = PI
  wp_walk
  subst hPI
  refine wpAny_pyIter_list hl1 (wpAny_bind (wpAny_runValue ?_))
  have hlS : l < s.heap.objs.size := Heap.lt_size hol
  have size1 : (s.heap.push (noSet w)).objs.size = s.heap.objs.size + 1 := Heap.size_push ..
  have apart : ∀ b, b < s.heap.objs.size → b ≠ (s.heap.push (noSet w)).objs.size := fun b hb z => by
    rw [size1] at z
    omega
  have hval : ∀ (i : Nat) (v : Value), items[i]? = some v → ∃ k t, ns[i]? = some k ∧ v = .int k t := fun i v hv => by
    have hi : i < ns.length := hisz ▸ (Array.getElem?_eq_some_iff.mp hv).1
    obtain ⟨t, e⟩ := PyProof.Rows.IntsAre.int_at hit i v (by rw [Array.getElem?_toList]; exact hv)
    exact ⟨ns[i], t, List.getElem?_eq_getElem hi, by rw [e, List.getD_eq_getElem?_getD, List.getElem?_eq_getElem hi] <;> rfl⟩
  refine set_update_ints ((Walks.list hh _ l (apart l hlS) items).toS) s.heap.objs.size (fun z => ?_) ns hisz hb hval (items.size - 0) 0 _ (by omega) (Nat.zero_le _)
    ⟨⟨_, Heap.get?_push_size _ rfl, rfl, rfl⟩, hl1.push _⟩ ⟨0, Nat.le_refl 0, setR_new_at (Heap.get?_push_of_some _ hS)⟩ fun s' c hm hc hS' => ?_
  · rcases List.mem_cons.mp z with z | z
    · rw [size1] at z
      exact absurd z (Nat.ne_of_lt (Nat.lt_succ_self _))
    · exact absurd (List.mem_singleton.mp z) (Nat.ne_of_gt hlS)
  · obtain ⟨h', g2, d', tk', os'⟩ := s'
    obtain rfl : g2 = s.gens := hm.gens
    obtain rfl : d' = s.drawn := hm.drawn
    obtain rfl : os' = s.os := hm.os
    refine wpAny_pure (wpAny_pure (h h' tk' c hS' (hisz ▸ hc) fun b o e => ?_))
    have hb0 : b < s.heap.objs.size := Heap.lt_size e
    refine hm.heap b o (fun z => ?_) (Heap.get?_push_of_some _ (Heap.get?_push_of_some _ e))
    rcases List.mem_cons.mp z with z | z
    · exact absurd z (Nat.ne_of_lt hb0)
    · exact apart b hb0 (List.mem_singleton.mp z)
/-- set(xs) -/
theorem set_of_list {l : Addr} {items : Array Value} (ns : List Int) {Q : Value → Shared → Prop} (hh : A.handled = none) (hl : s.heap.IsList l items) (hit : IntsAre items.toList ns) (hb : ns.length + 1 < scanBound)
    (h : ∀ (h' : Heap) (tk c : Nat), SetR w h' s.heap.objs.size (fun j => decide (j ∈ ns)) c → c ≤ ns.length → (∀ b o, s.heap.get? b = some o → h'.get? b = some o) → Q (.ref s.heap.objs.size) { s with heap := h', toks := tk }) :
    wpAny (model P w) A (call (.type "set") [.ref l]) Q E s := by
  obtain ⟨c, tl, hmro⟩ := F.called_set.mro
  have hmade := F.called_set.made
  have hsub := F.called_set.sub
  refine wpAny_call (codeAny_of_tree ?_)
  show wpAny _ _ (callAny (.type "set") _) _ _ _
  refine wpAny_pure ⟨Code.quiet_builtin _ (by decide +kernel), codeAny_builtin F.entry_type_call ?_⟩
  rw [Around.under_plain (weight_type_call_type "set" [.ref l] []) rfl]
  have h1 := F.called_set.notType
  have h2 := F.called_set.canCreate
  have hct := F.typeCall_set_1 (.ref l)
  repeat (any_goals (first | assumption | wp_step))
  refine codeAny_mono (code_set_led1 (.ref l) (E := E) (Q₁ := fun obj s₁ => obj = .ref s.heap.objs.size ∧ s₁ = { s with heap := s.heap.push (noSet w) }) ⟨rfl, rfl⟩) fun r s₁ hr => ?_
  match r, hr with
  | .error e, hr => exact hr
  | .ok .next, hr => exact False.elim hr
  | .ok .brk, hr => exact False.elim hr
  | .ok .cont, hr => exact False.elim hr
  | .ok (.ret obj), hr =>
    obtain ⟨rfl, rfl⟩ := hr
    have hS : (s.heap.push (noSet w)).get? s.heap.objs.size = some (noSet w) := Heap.get?_push_size _ rfl
    have hT : Shared.TypeIs { s with heap := s.heap.push (noSet w) } (.ref s.heap.objs.size) "set" := ⟨_, hS, rfl⟩
    have hli := F.called_set.init.lookup
    have hbi := F.called_set.init.bind (.ref s.heap.objs.size)
    repeat (any_goals (first | assumption | wp_step))
    refine codeAny_mono (codeAny_call_builtin (R := wants (fun r s₂ => r = .none ∧ ∃ h' tk c, s₂ = { s with heap := h', toks := tk } ∧ SetR w h' s.heap.objs.size (fun j => decide (j ∈ ns)) c ∧ c ≤ ns.length ∧ (∀ b o, s.heap.get? b = some o → h'.get? b = some o)) E)
      F.called_set.init.plain F.entry_set_init (check_set_init_1 hT (init_list ns (by simp [hh]) hl hit hb fun h' tk c a1 a2 a3 => ⟨rfl, h', tk, c, rfl, a1, a2, a3⟩))) fun r₂ s₂ hr₂ => ?_
    match r₂, hr₂ with
    | .error e, hr => exact hr
    | .ok .next, hr => exact False.elim hr
    | .ok .brk, hr => exact False.elim hr
    | .ok .cont, hr => exact False.elim hr
    | .ok (.ret r), ⟨e, h', tk, c, e2, a1, a2, a3⟩ =>
      subst e e2
      repeat (any_goals (first | assumption | wp_step))
      exact h _ _ _ a1 a2 a3
end
section
variable {X : Cx}
/-- set(xs) by values -/
def rSetI (K : PySem.W.Frag) (w : World) : List V → Hp → VK → Prop := fun vs H Q => ∃ (l : Addr) (ns : List Int), vs = [.ref l] ∧ SqL K H l (ns.map V.int) ∧ ns.length ≤ 1000 ∧ ∀ p c, c ≤ ns.length → H p = none → Q (.ref p) (upd H p (SetO w p (fun j => decide (j ∈ ns)) c))
theorem cr_setI (hc : X.calm = true) : CallR X (.type "set") (rSetI X.K X.w) := by
  intro pins s σ H vs us Q I r h
  obtain ⟨l, ns, rfl, hq, hz, q⟩ := h
  rw [Vals.ref1 r]
  obtain ⟨its, rv, hl, _⟩ := I.list hq
  refine set_of_list ns (I.ok.hd hc) hl.isList (by simpa using intsAre_of rv) (Nat.lt_of_le_of_lt (Nat.succ_le_succ hz) (by decide)) fun h' tk c a1 a2 a3 => ?_
  exact ⟨.ref s.heap.objs.size, upd H s.heap.objs.size (SetO X.w s.heap.objs.size (fun j => decide (j ∈ ns)) c), I.laid (t' := tk) a3 (Nat.le_refl _) (setO_new a1), rfl, q _ c a2 (I.hok.fresh (Nat.le_refl _))⟩
/-- sorted(set(xs)), the set made on the way -/
def rising (ns ms : List Int) : Prop := ms.Pairwise (· < ·) ∧ ∀ k, k ∈ ms ↔ k ∈ ns
variable {K : PySem.W.Frag} {H : Hp} {Q : VK} {l : Addr} {ns : List Int} {w : World}
theorem w_setI (h : SqL K H l (ns.map V.int)) (hz : ns.length ≤ 1000) (q : ∀ p c H', c ≤ ns.length → H p = none → Ch [] H H' → H' p = some (SetO w p (fun j => decide (j ∈ ns)) c) → Q (.ref p) H') : rSetI K w [.ref l] H Q :=
  ⟨l, ns, rfl, h, hz, fun p c hc hp => q p c _ hc hp (.new hp) upd_same⟩
theorem w_sortSet {p : Addr} {c : Nat} (h : H p = some (SetO w p (fun j => decide (j ∈ ns)) c)) (hc : c < 64) (q : ∀ (ms : List Int) m H', rising ns ms → ms.length = c → H m = none → Ch [] H H' → H' m = some (.lst (ms.map V.int)) → Q (.ref m) H') : rSortedSet w [.ref p] H Q :=
  ⟨p, _, c, rfl, h, hc, fun ms m h1 h2 h3 hm => q ms m _ ⟨h1, fun k => (h2 k).trans (by simp)⟩ h3 hm (.new hm) upd_same⟩
end
/-! ## tuples: which object it is does not matter -/
section
variable {K : PySem.W.Frag} {H H' : Hp} {Q : VK} {a b p : Addr} {xs ys : List V} {S : List Addr} {lo hi : Option Int} {f : Addr} {w : World}
theorem sqt_new (h : H p = some (.tup xs)) : SqT K H p xs := .inl (.inl h)
theorem w_catA (h1 : SqT K H a xs) (h2 : SqT K H b ys) (hz : xs.length + ys.length ≤ sizeLine) (q : ∀ t H', Ch [] H H' → SqT K H' t (xs ++ ys) → Q (.ref t) H') : rCatA K (.ref a) (.ref b) H Q := by
  refine ⟨a, b, xs, ys, rfl, rfl, h1, h2, hz, fun e => ?_, fun _ e => ?_, fun _ _ p hp => q p _ (.new hp) (sqt_new upd_same)⟩
  · subst e
    exact q b H .refl h2
  · subst e
    exact q a H .refl (by rw [List.append_nil]; exact h1)
theorem w_slA (h : SqT K H a xs) (q : ∀ t H', Ch [] H H' → SqT K H' t (cutV xs lo hi) → Q (.ref t) H') : rSlA K (.ref a) lo hi H Q := by
  refine ⟨a, xs, rfl, h, fun e => q a H .refl ?_, fun _ p hp => q p _ (.new hp) (sqt_new upd_same)⟩
  have e2 : cutV xs lo hi = xs := by
    unfold cutV
    rw [e.1, e.2, List.drop_zero, Nat.sub_zero, List.take_length]
  rw [e2]
  exact h
/-- a new tuple -/
theorem w_newT {n : Nat} (hz : n ≤ sizeLine) (h : ∀ p H', Ch [] H H' → SqT K H' p xs → Q (.ref p) H') : n ≤ sizeLine ∧ New H (.tup xs) Q := ⟨hz, w_new fun p H' _ c e => h p H' c (sqt_new e)⟩
theorem w_tupOf (h : SqL K H p xs) (q : ∀ t H', Ch [] H H' → SqT K H' t xs → Q (.ref t) H') : rTupOf K [.ref p] H Q := w_tupL h fun l H' _ c e => q l H' c (sqt_new e)
theorem cut_take {xs : List V} {k : Nat} (h : k ≤ xs.length) : cutV xs none (some (k : Int)) = xs.take k := by
  unfold cutV
  rw [HT.sIx_none, show HT.sIx xs.length xs.length (some (k : Int)) = min k xs.length from HT.sIx_nat _ _ k, Nat.sub_zero, List.drop_zero, Nat.min_eq_left h]
theorem cut_drop {xs : List V} {k : Nat} (h : k ≤ xs.length) : cutV xs (some (k : Int)) none = xs.drop k := by
  unfold cutV
  rw [HT.sIx_none, show HT.sIx xs.length 0 (some (k : Int)) = min k xs.length from HT.sIx_nat _ _ k, Nat.min_eq_left h]
  exact List.take_of_length_le (by rw [List.length_drop]; exact Nat.le_refl _)
theorem w_rev {n : Nat} (h : H p = some (.lst xs)) (q : ∀ H', Ch [p] H H' → H' p = some (.lst xs.reverse) → Q .non H') : rReverse (.ref p) [] H Q := ⟨p, xs, rfl, rfl, h, q _ (.put h) upd_same⟩
theorem w_ckw {r : List V → List V → Hp → VK → Prop} {t tk : TA} {σ : L2.St} (h : t σ H fun vs H1 => tk σ H1 fun zs H2 => r vs zs H2 Q) : tCKw r t tk σ H Q := h
theorem w_bm0 {T : String} {r : V → List V → Hp → VK → Prop} {te : TE} {σ : L2.St} (h : te σ H fun x H1 => tyV K T x H1 ∧ r x [] H1 Q) : tBM0 K T r te σ H Q := h

/-! ## a list of tuples of ints -/
/-- at l a list of the tuples fs -/
def LT (K : PySem.W.Frag) (H : Hp) (l : Addr) (fs : List (List Int)) : Prop := ∃ bs : List (Addr × List Int), H l = some (.lst (bs.map fun b => .ref b.1)) ∧ (∀ b ∈ bs, SqT K H b.1 (b.2.map V.int)) ∧ bs.map (·.2) = fs
theorem Ch.sqts {bs : List (Addr × List Int)} (c : Ch S H H') (h : ∀ b ∈ bs, SqT K H b.1 (b.2.map V.int)) : ∀ b ∈ bs, SqT K H' b.1 (b.2.map V.int) := fun b hb => c.sqt (h b hb)
theorem LT.keep {fs : List (List Int)} (h : LT K H a fs) (c : Ch [] H H') : LT K H' a fs := let ⟨bs, h1, h2, h3⟩ := h; ⟨bs, c.lst h1, c.sqts h2, h3⟩
theorem LT.but {fs : List (List Int)} (h : LT K H a fs) (c : Ch [p] H H') (n : a ≠ p) : LT K H' a fs := let ⟨bs, h1, h2, h3⟩ := h; ⟨bs, c.but h1 n, c.sqts h2, h3⟩
theorem dp_tup {t : Addr} {ns : List Int} (h : SqT K H t (ns.map V.int)) : Dp K H (.ref t) (.tuple (ns.map .int)) := by
  have allInts : ∀ ns : List Int, DpAll K H (ns.map V.int) (ns.map PyData.int) := fun ns => by
    induction ns with
    | nil => exact .nil
    | cons n ns ih => exact .cons (.int n) ih
  exact .tup h (allInts ns)
def encT (f : List Int) : PyData := .tuple (f.map .int)
theorem dp_refs : ∀ {bs : List (Addr × List Int)}, (∀ b ∈ bs, SqT K H b.1 (b.2.map V.int)) → DpAll K H (bs.map fun b => V.ref b.1) ((bs.map (·.2)).map encT)
  | [], _ => .nil
  | b :: bs, h => .cons (dp_tup (h b List.mem_cons_self)) (dp_refs fun x hx => h x (List.mem_cons_of_mem _ hx))
theorem LT.dp {fs : List (List Int)} (h : LT K H a fs) : Dp K H (.ref a) (.list (fs.map encT)) := by
  obtain ⟨bs, h1, h2, rfl⟩ := h
  exact .lst (SqL.of h1) (dp_refs h2)
theorem ints_small {k : Nat} {ns : List Int} (h : ∀ x ∈ ns, x.natAbs < 10 ^ k) : smallAll k (ns.map PyData.int) = true := by
  rw [smallAll_iff]
  intro x hx
  obtain ⟨n, hn, rfl⟩ := List.mem_map.mp hx
  simpa [small] using h n hn
theorem ints_cost (k : Nat) (ns : List Int) : costAll k (ns.map PyData.int) ≤ (k + 3) * ns.length := by
  have h := costAll_le (k := k) (m := k + 1) (xs := ns.map PyData.int) fun x hx => by
    obtain ⟨n, hn, rfl⟩ := List.mem_map.mp hx
    exact Nat.le_refl _
  rw [List.length_map] at h
  exact h
theorem encT_depth (f : List Int) : (encT f).depth ≤ 1 := by
  simp only [encT, PyData.depth, PySem.W.depth_ints]
  decide
theorem encT_cost (k : Nat) (f : List Int) : cost k (encT f) ≤ (k + 3) * f.length + 4 := by
  have := ints_cost k f
  show costAll k _ + 4 ≤ _
  omega
theorem depthAll_le {m : Nat} : ∀ {xs : List PyData}, (∀ x ∈ xs, x.depth ≤ m) → PyData.depthAll xs ≤ m
  | [], _ => by simp [PyData.depthAll]
  | x :: xs, h => by
    have h1 := h x List.mem_cons_self
    have h2 := depthAll_le (xs := xs) fun y hy => h y (List.mem_cons_of_mem _ hy)
    simp only [PyData.depthAll]
    omega
/-- the text of a list of faces -/
def txtF (fs : List (List Int)) : Str := (PyData.list (fs.map encT)).shown
theorem w_reprF {fs : List (List Int)} (h : LT K H a fs) (hl : fs.length ≤ 4000) (hz : ∀ f ∈ fs, f.length ≤ 40 ∧ ∀ x ∈ f, x.natAbs < 10 ^ 70) (q : Q (.str (txtF fs)) H) : rReprD K [.ref a] H Q := by
  refine ⟨a, _, 70, rfl, h.dp, ?_, by decide, ?_, ?_, q⟩
  · have := depthAll_le (m := 1) (xs := fs.map encT) fun x hx => by
      obtain ⟨f, _, rfl⟩ := List.mem_map.mp hx
      exact encT_depth f
    simp only [PyData.depth]
    omega
  · show smallAll 70 _ = true
    rw [smallAll_iff]
    intro x hx
    obtain ⟨f, hf, rfl⟩ := List.mem_map.mp hx
    exact ints_small (hz f hf).2
  · have := costAll_le (k := 70) (m := 2924) (xs := fs.map encT) fun x hx => by
      obtain ⟨f, hf, rfl⟩ := List.mem_map.mp hx
      have h1 := encT_cost 70 f
      have h2 := (hz f hf).1
      have h3 : 73 * f.length ≤ 73 * 40 := Nat.mul_le_mul_left _ h2
      omega
    rw [List.length_map] at this
    show costAll 70 _ + 4 ≤ sizeLine
    rw [sizeLine_eq]
    have : (2924 + 2) * fs.length ≤ 2926 * 4000 := Nat.mul_le_mul_left _ hl
    omega
/-- sorted by size, of such a list -/
theorem w_sortSz {bs : List (Addr × List Int)} (h : SqL K H a (bs.map fun b => .ref b.1)) (ht : ∀ b ∈ bs, SqT K H b.1 (b.2.map V.int)) (hl : bs.length ≤ 1000000) (hz : ∀ b ∈ bs, b.2.length ≤ 1000000)
    (q : ∀ l H', H l = none → Ch [] H H' → LT K H' l ((bs.map (·.2)).mergeSort faceLe) → Q (.ref l) H') : rSortSz K f [.ref a] [.ref f] H Q := by
  refine ⟨a, bs, rfl, rfl, h, ht, hl, hz, w_new fun l H' hn c e => q l H' hn c ⟨_, e, fun b hb => c.sqt (ht b (List.mem_mergeSort.mp hb)), ?_⟩⟩
  exact PySem.W.sort_maps (r := fun p q : Addr × List Int => faceLe p.2 q.2) (s := faceLe) (·.2) fun _ _ _ _ => rfl
end
/-! ## sorted of data -/
section
variable {X : Cx} {K : PySem.W.Frag} {H : Hp} {Q : VK} {a : Addr}
def rSortD (K : PySem.W.Frag) : List V → Hp → VK → Prop := fun vs H Q => ∃ (a : Addr) (bs : List (V × PyData)), vs = [.ref a] ∧ SqL K H a (bs.map (·.1)) ∧ (∀ b ∈ bs, Dp K H b.1 b.2) ∧ PySem.W.AllAlike (bs.map (·.2)) ∧ PySem.W.Sortable (bs.map (·.2)) ∧
  bs.length ≤ 1000000 ∧ (∀ b ∈ bs, b.2.depth ≤ 40) ∧ New H (.lst ((bs.mergeSort (PySem.W.dataLe false Prod.snd)).map (·.1))) Q
theorem each_vals : ∀ {bs : List (V × PyData)} {its : List Value}, Vals (bs.map (·.1)) its → PySem.W.EachIs (fun v (b : V × PyData) => RelV b.1 v) its bs
  | [], _, r => by
    cases r
    exact .nil
  | b :: bs, _, r => by
    cases r with
    | cons r1 r2 => exact .cons r1 (each_vals r2)
theorem vals_each : ∀ {bs : List (V × PyData)} {its : List Value}, PySem.W.EachIs (fun v (b : V × PyData) => RelV b.1 v) its bs → Vals (bs.map (·.1)) its
  | _, _, .nil => .nil
  | _, _, .cons r1 r2 => .cons r1 (vals_each r2)
theorem each_reads {pins : List (Addr × Obj)} {σ : L2.St} {H : Hp} {s : Shared} (I : Inv X pins σ H s) : ∀ {bs : List (V × PyData)} {its : List Value}, (∀ b ∈ bs, Dp X.K H b.1 b.2) → PySem.W.EachIs (fun v (b : V × PyData) => RelV b.1 v) its bs →
    PySem.W.EachIs (fun v (b : V × PyData) => ∃ as, Reads s.heap v b.2 as) its bs
  | _, _, _, .nil => .nil
  | b :: _, _, h, .cons r1 r2 => .cons (Dp.reads I b.2 _ _ (h b List.mem_cons_self) r1) (each_reads I (fun x hx => h x (List.mem_cons_of_mem _ hx)) r2)
theorem cr_sortD (hu : X.A.units + 64 < cLine) : CallR X (.builtin "sorted") (rSortD X.K) := by
  intro pins s σ H vs us Q I r h
  obtain ⟨a, bs, rfl, hq, hd, hal, hso, hz, hdp, q⟩ := h
  rw [Vals.ref1 r]
  obtain ⟨its, rv, hl, _⟩ := I.list hq
  have e := each_vals rv
  refine PySem.W.sorted_data (enc := Prod.snd) hl.isList e (each_reads I hd e) hal hso (by rw [sizeLine_eq]; omega) (fun b hb => by have := hdp b hb; omega) fun out lo eo => ?_
  have hf : H (s.heap.objs.size + 1) = none := I.hok.fresh (Nat.le_succ _)
  refine ⟨.ref (s.heap.objs.size + 1), _, I.laid (t' := s.toks) (fun b o eb => sortedAll_old eb) (Nat.le_succ _) ?_, rfl, q _ hf⟩
  obtain ⟨c, hc⟩ := sortedAll_at s.heap its out.toArray
  exact ⟨by rw [List.length_map, List.length_mergeSort, sizeLine_eq]; omega, out, c, vals_each eo, hc⟩
end
/-! ## sorting tuples of which some may be empty -/
section
variable {prog : Program} {w : World} {A : Around} {E : Value → Shared → Prop} {s : Shared}
theorem call_tuple_lt {Q : Value → Shared → Prop} {l b : Addr} {items items2 : Array Value} {e r : Nat → Bool} (hl : s.heap.IsTuple l items) (hb : s.heap.IsTuple b items2)
    (he : ∀ j (h1 : j < items.size) (h2 : j < items2.size), SeqAt.EqAt A.in1 s items[j] items2[j] (e j)) (hr : ∀ j (h1 : j < items.size) (h2 : j < items2.size), e j = false → SeqAt.RcLt A.in1 s items[j] items2[j] (r j))
    (h : Q (.bool (SeqAt.firstLt e r (decide (items.size < items2.size)) (List.range (min items.size items2.size)))) s) : wpAny (model prog w) A (call (.builtin "tuple.__lt__") [.ref l, .ref b]) Q E s := by
  obtain ⟨⟨cls, dd, data, sl⟩, ho, hc, n, hd⟩ := id hl
  obtain ⟨⟨cls2, dd2, data2, sl2⟩, ho2, hc2, n2, hd2⟩ := id hb
  simp only at hc hd hc2 hd2
  subst hc hd hc2 hd2
  exact call_meets F.slot_tuple_lt ⟨_, ho, rfl⟩ F.entry_tuple_lt (F.args_tuple_lt_2 _ _) (SeqAt.tuple_ltAt l b items items2 n n2 dd dd2 sl sl2 e r) ⟨ho, ho2, he, hr, h⟩
theorem oneLt_tup {xs ys : List PyData} {a b : Value} {as bs : List Addr} {Q : Bool → Shared → Prop} (ra : Reads s.heap a (.tuple xs) as) (rb : Reads s.heap b (.tuple ys) bs) (hal : PySem.W.alikeAll xs ys = true)
    (hu : A.units + min (PyData.tuple xs).depth (PyData.tuple ys).depth < cLine) (hq : Q (PySem.W.dataLt (.tuple xs) (.tuple ys)) s) : wpAny (model prog w) A (oneLt' true a b) Q E s := by
  cases ra with
  | @tuple l o vs n _ as₁ h1 h2 h3 h4 =>
    cases rb with
    | @tuple l' o' vs' n' _ bs₁ k1 k2 k3 k4 =>
      have n1 : vs.size = xs.length := by simpa using SeqAt.ReadsAll.length _ _ _ h4
      have n2 : vs'.size = ys.length := by simpa using SeqAt.ReadsAll.length _ _ _ k4
      rw [PySem.W.dataLt_tuple, ← PySem.W.firstLt_toks xs ys hal, ← n1, ← n2] at hq
      rw [oneLt'_eq]
      simp only [if_true]
      refine wpAny_bind (wpAny_cRoomFor (SeqAt.room_here hu) ?_)
      refine wpAny_bind (wpAny_callSpecialIfBound?_slot (T := "tuple") ⟨_, h1, h2⟩ F.slot_tuple_lt (call_tuple_lt (e := SeqAt.pairEq xs ys) (r := fun j => PySem.W.dataLt (xs.getD j .none) (ys.getD j .none)) ⟨_, h1, h2, _, h3⟩ ⟨_, k1, k2, _, k3⟩ (fun j j1 j2 => ?_) (fun j j1 j2 hj => ?_) ?_))
      · have := PySem.W.eqAt_alikeAll xs ys A.in1 s vs.toList vs'.toList _ _ h4 k4 hal (SeqAt.room_in hu) j (by simpa using j1) (by simpa using j2)
        simpa using this
      · have := PySem.W.rcLt_alikeAll xs ys A.in1 s vs.toList vs'.toList _ _ h4 k4 hal (SeqAt.room_in hu) j (by simpa using j1) (by simpa using j2) hj
        simpa using this
      · exact wpAny_truthy_bool hq
theorem firsts_any {M : Model} : ∀ {vs : List Value} {ds : List PyData}, PySem.W.EachIs (fun v d => ∃ as, Reads s.heap v d as) vs ds → (∀ d ∈ ds, ∃ xs, d = .tuple xs) →
    ∃ gs : List (Option Value), gs.length = vs.length ∧ ((gs.all fun x => x.isSome) = true → ∀ d ∈ ds, ∃ x r, d = .tuple (x :: r)) ∧ ∀ (A : Around) (E : Value → Shared → Prop) (Q : List (Option Value) → Shared → Prop), Q gs s → wpAny M A (vs.mapM firstOfTuple') Q E s
  | _, _, .nil, _ => ⟨[], rfl, (fun _ d hd => nomatch hd), fun A E Q q => by rw [List.mapM_nil]; exact wpAny_pure q⟩
  | _, _, .cons (b := d) ⟨as, r⟩ t, ht => by
    obtain ⟨gs, g1, g2, g3⟩ := firsts_any (M := M) t fun d hd => ht d (List.mem_cons_of_mem _ hd)
    obtain ⟨xs, rfl⟩ := ht d List.mem_cons_self
    cases r with
    | @tuple a o items n _ _ ho hc hd hr =>
      refine ⟨items[0]? :: gs, by rw [List.length_cons, List.length_cons, g1], fun ha d hd' => ?_, fun A E Q q => ?_⟩
      · rw [List.all_cons, Bool.and_eq_true] at ha
        rcases List.mem_cons.mp hd' with rfl | hm
        · have n1 : items.size = xs.length := by simpa using SeqAt.ReadsAll.length _ _ _ hr
          cases xs with
          | nil =>
            have z : items.size = 0 := n1
            have z2 : items[0]? = none := by simp [z]
            rw [z2] at ha
            exact absurd ha.1 (by decide)
          | cons x r => exact ⟨x, r, rfl⟩
        · exact g2 ha.2 d hm
      · rw [List.mapM_cons]
        refine wpAny_bind ?_
        rw [PySem.W.kas_first_eq]
        refine wpAny_bind (PySem.W.Looks.here (show PySem.W.Looks M s.heap (typeOf (.ref a)) o.cls from (PySem.W.Looks.ld ho).andThen .now) ?_)
        rw [hc, if_neg (by first | decide | simp)]
        refine wpAny_bind (listItems_at ho hd (wpAny_pure ?_))
        exact wpAny_bind (g3 A E (fun bs s' => wpAny M A (pure (items[0]? :: bs)) Q E s') (wpAny_pure q))
theorem kind_any {M : Model} {vs : List Value} {ds : List PyData} (h2 : 2 ≤ vs.length) (e : PySem.W.EachIs (fun v d => ∃ as, Reads s.heap v d as) vs ds) (ht : ∀ d ∈ ds, ∃ xs, d = .tuple xs) :
    (∀ d ∈ ds, ∃ x r, d = .tuple (x :: r)) ∨ ∃ kd, (kd = general' ∨ kd = oneType') ∧ ∀ (A : Around) (E : Value → Shared → Prop) {Q : SortKind → Shared → Prop}, Q kd s → wpAny M A (keyKind' vs.toArray) Q E s := by
  obtain ⟨gs, g1, g2, g3⟩ := firsts_any (M := M) e ht
  by_cases ha : (gs.all fun x => x.isSome) = true
  · exact .inl (g2 ha)
  · right
    have hT : ∀ v ∈ vs, PySem.W.Looks M s.heap (typeOf v) (.type "tuple") := fun v hv => by
      obtain ⟨d, hd, as, r⟩ := e.left v hv
      obtain ⟨xs, rfl⟩ := ht d hd
      exact PySem.W.looks_reads r
    by_cases hf : ((gs.toArray[0]?).bind id).isSome = true
    · refine ⟨general', .inl rfl, fun A E Q q => ?_⟩
      rw [kat_kind_eq, List.mapM_toArray, map_eq_pure_bind]
      refine wpAny_bind (wpAny_bind (g3 A E _ (wpAny_pure ?_)))
      rw [if_neg (by simpa using ha), if_pos hf]
      exact wpAny_pure q
    · refine ⟨oneType', .inr rfl, fun A E Q q => ?_⟩
      rw [kat_kind_eq, List.mapM_toArray, map_eq_pure_bind]
      refine wpAny_bind (wpAny_bind (g3 A E _ (wpAny_pure ?_)))
      rw [if_neg (by simpa using ha), if_neg hf]
      rw [oneTypeOnly'_eq, List.mapM_toArray, map_eq_pure_bind]
      refine wpAny_bind (wpAny_bind (wpAny_bind (PySem.W.kas_mapM (r := .type "tuple") _ (fun v hv Q' hq => (hT v hv).here hq) (wpAny_pure ?_))))
      obtain ⟨v₁, v₂, rest, rfl⟩ : ∃ v₁ v₂ rest, vs = v₁ :: v₂ :: rest := by
        match vs, h2 with
        | [], h2 => simp at h2
        | [_], h2 => simp at h2
        | v₁ :: v₂ :: rest, _ => exact ⟨v₁, v₂, rest, rfl⟩
      have hall : ((List.map (fun _ => Value.type "tuple") (v₁ :: v₂ :: rest)).toArray.all fun x => x == Value.type "tuple") = true := by
        simp only [List.all_toArray, List.all_map, List.all_eq_true]
        intro _ _
        exact beq_self_eq_true _
      have h0 : (List.map (fun _ => Value.type "tuple") (v₁ :: v₂ :: rest)).toArray[0]? = some (Value.type "tuple") := by simp
      rw [h0]
      simp only [hall, if_true]
      exact wpAny_pure (wpAny_pure q)
theorem sortsAt_tups {vs : List Value} {ds : List PyData} (e : PySem.W.EachIs (fun v d => ∃ as, Reads s.heap v d as) vs ds) (hal : PySem.W.AllAlike ds) (ht : ∀ d ∈ ds, ∃ xs, d = .tuple xs) (hu : ∀ d, d ∈ ds → A.units + d.depth < cLine) :
    PySem.W.SortsAt prog w A s (PySem.W.dataKind s.heap ds) vs := by
  have room : ∀ {d d' : PyData}, d ∈ ds → A.units + min d.depth d'.depth < cLine := fun {d d'} hd => Nat.lt_of_le_of_lt (Nat.add_le_add_left (Nat.min_le_left _ _) _) (hu d hd)
  have keys : ∀ v, v ∈ vs → ∃ a, (PySem.W.dataKind s.heap ds).keyOf v = some a := fun v hv => by
    obtain ⟨d, hd, as, r⟩ := e.left v hv
    exact ⟨_, PySem.W.dataKind_some hal hd r⟩
  have g : H.LtAt prog w A s (PySem.W.dataKind s.heap ds) general' := fun E x y a b Q ha hb hq => by
    obtain ⟨d, as, hd, ra, rfl⟩ := PySem.W.dataKind_inv ha
    obtain ⟨d', as', hd', rb, rfl⟩ := PySem.W.dataKind_inv hb
    obtain ⟨xs, rfl⟩ := ht d hd
    exact PySem.W.oneLt_alike (f := false) (fun z => nomatch z) ra rb (hal _ hd _ hd') (fun z => nomatch z) (room hd) hq
  have o : H.LtAt prog w A s (PySem.W.dataKind s.heap ds) oneType' := fun E x y a b Q ha hb hq => by
    obtain ⟨d, as, hd, ra, rfl⟩ := PySem.W.dataKind_inv ha
    obtain ⟨d', as', hd', rb, rfl⟩ := PySem.W.dataKind_inv hb
    have hh := hal _ hd _ hd'
    have hr := room (d' := d') hd
    obtain ⟨xs, rfl⟩ := ht d hd
    obtain ⟨ys, rfl⟩ := ht d' hd'
    rw [keyLt'_oneType]
    exact oneLt_tup ra rb (by simpa [PySem.W.alike] using hh) hr hq
  by_cases h2 : 2 ≤ vs.length
  · rcases kind_any (M := model prog w) h2 e ht with h | ⟨kd, hk, h⟩
    · exact PySem.W.SortsAt.data e hal (.inl h) hu
    · refine ⟨keys, kd, ?_, fun _ E Q q => h A E q⟩
      rcases hk with rfl | rfl
      · exact g
      · exact o
  · exact ⟨keys, general', g, fun z => absurd z h2⟩
end
/-! ## lists and sets of int tuples, sorted -/
theorem tupLt (xs ys : List Int) : PySem.W.dataLt (encT xs) (encT ys) = decide (xs < ys) := by
  unfold encT
  rw [PySem.W.dataLt_tuple]
  have e := PySem.W.dataLt_ints xs ys
  unfold PySem.W.rowLt at e
  exact e
def tLe (p q : List Int) : Bool := decide (p ≤ q)
theorem tupLe (p q : Addr × List Int) : PySem.W.dataLe false (fun b : Addr × List Int => encT b.2) p q = tLe p.2 q.2 := by
  show (!PySem.W.dataLt (encT q.2) (encT p.2)) = _
  rw [tupLt]
  unfold tLe
  by_cases h : q.2 < p.2
  · rw [decide_eq_true h, decide_eq_false (fun r => List.not_lt.mpr r h)]
    rfl
  · rw [decide_eq_false h, decide_eq_true (List.not_lt.mp h)]
    rfl
theorem alike_tups (bs : List (Addr × List Int)) : PySem.W.AllAlike (bs.map fun b => encT b.2) := by
  intro d hd d' hd'
  obtain ⟨b, _, rfl⟩ := List.mem_map.mp hd
  obtain ⟨b', _, rfl⟩ := List.mem_map.mp hd'
  simp [encT, PySem.W.alike, PySem.W.alike_ints]
theorem are_tups (bs : List (Addr × List Int)) : ∀ d ∈ bs.map (fun b => encT b.2), ∃ xs, d = PyData.tuple xs := by
  intro d hd
  obtain ⟨b, _, rfl⟩ := List.mem_map.mp hd
  exact ⟨_, rfl⟩
section
variable {X : Cx}
/-- sorted(xs), xs tuples of ints, some of them empty or not -/
def rSortT (K : PySem.W.Frag) : List V → Hp → VK → Prop := fun vs H Q => ∃ (a : Addr) (bs : List (Addr × List Int)), vs = [.ref a] ∧ SqL K H a (bs.map fun b => .ref b.1) ∧ (∀ b ∈ bs, SqT K H b.1 (b.2.map V.int)) ∧ bs.length ≤ 1000000 ∧
  New H (.lst ((bs.mergeSort fun p q => tLe p.2 q.2).map fun b => .ref b.1)) Q
theorem depth_encT {f : List Int} (hu : X.A.units + 64 < cLine) : X.A.in1.in1.units + (encT f).depth < cLine := by
  have h1 := encT_depth f
  have h2 : X.A.in1.in1.units = X.A.units + 2 := rfl
  omega
theorem cr_sortTups (hu : X.A.units + 64 < cLine) : CallR X (.builtin "sorted") (rSortT X.K) := by
  intro pins s σ H vs us Q I r h
  obtain ⟨a, bs, rfl, hq, ht, hz, q⟩ := h
  rw [Vals.ref1 r]
  obtain ⟨its, rv, hl, _⟩ := I.list hq
  have e := each_refs rv
  have hL : its.length ≤ sizeLine := by rw [e.length, sizeLine_eq]; omega
  have er0 : ∀ {bs : List (Addr × List Int)} {its : List Value}, (∀ b ∈ bs, SqT X.K H b.1 (b.2.map V.int)) → PySem.W.EachIs (fun v (b : Addr × List Int) => v = .ref b.1) its bs → PySem.W.EachIs (fun v (b : Addr × List Int) => ∃ as, Reads s.heap v (encT b.2) as) its bs := by
    intro bs its hb e
    induction e with
    | nil => exact .nil
    | cons r1 _ ih => exact .cons (r1 ▸ Dp.reads I _ _ _ (dp_tup (hb _ List.mem_cons_self)) rfl) (ih fun x hx => hb x (List.mem_cons_of_mem _ hx))
  have er := er0 ht e
  have er' : PySem.W.EachIs (fun v (b : Addr × List Int) => ∃ as, Reads (PySem.W.sortingHeap (PySem.W.copyHeap s.heap its) (s.heap.objs.size + 1) its) v (encT b.2) as) its bs := er.mono fun _ _ ⟨as, r⟩ => ⟨as, PyProof.Rows.Reads.keeps (fun _ _ => PySem.W.sorting_copy_old) r⟩
  refine PySem.W.sorted_vals hl.isList (sortsAt_tups (s := { s with heap := PySem.W.sortingHeap (PySem.W.copyHeap s.heap its) (s.heap.objs.size + 1) its })
    (PySem.W.each_map (R := fun v d => ∃ as, Reads (PySem.W.sortingHeap (PySem.W.copyHeap s.heap its) (s.heap.objs.size + 1) its) v d as) (fun b : Addr × List Int => encT b.2) er') (alike_tups bs) (are_tups bs) (fun d hd => ?_)) hL ?_
  · obtain ⟨b, _, rfl⟩ := List.mem_map.mp hd
    exact depth_encT hu
  have eo := PySem.W.sortVals_data false e er' (alike_tups bs)
  generalize PySem.W.sortVals (PySem.W.dataKind (PySem.W.sortingHeap (PySem.W.copyHeap s.heap its) (s.heap.objs.size + 1) its) (bs.map fun b => encT b.2)) false its its = out at eo ⊢
  have e2 : PySem.W.dataLe false (fun b : Addr × List Int => encT b.2) = fun p q => tLe p.2 q.2 := funext fun p => funext fun q => tupLe p q
  rw [e2] at eo
  have hf : H (s.heap.objs.size + 1) = none := I.hok.fresh (Nat.le_succ _)
  refine ⟨.ref (s.heap.objs.size + 1), _, I.laid (t' := s.toks) (fun b o eb => sortedAll_old eb) (Nat.le_succ _) ?_, rfl, q _ hf⟩
  obtain ⟨c, hc⟩ := sortedAll_at s.heap its out.toArray
  exact ⟨by rw [List.length_map, List.length_mergeSort, sizeLine_eq]; omega, out, c, refs_each eo, hc⟩
end
section
variable {P : Program} {w : World} {A : Around} {E : Value → Shared → Prop} {s : Shared}
/-- the addresses stand for the rows of L -/
theorem refs_rows {L : List (Addr × List Int)} : ∀ vs : List Value, (∀ v ∈ vs, ∃ q ∈ L, v = Value.ref q.1) → ∃ L1 : List (Addr × List Int), vs = L1.map (fun q => Value.ref q.1) ∧ ∀ q ∈ L1, q ∈ L
  | [], _ => ⟨[], rfl, fun q hq => nomatch hq⟩
  | v :: vs, hv => by
    obtain ⟨q, hq, e⟩ := hv v List.mem_cons_self
    obtain ⟨L1, e1, hs⟩ := refs_rows vs fun u hu => hv u (List.mem_cons_of_mem _ hu)
    refine ⟨q :: L1, by rw [List.map_cons, e, e1], fun r hr => ?_⟩
    rcases List.mem_cons.mp hr with z | z
    · rw [z]; exact hq
    · exact hs r z
theorem each_rows : ∀ (L : List (Addr × List Int)), PySem.W.EachIs (fun v (b : Addr × List Int) => v = Value.ref b.1) (L.map fun q => Value.ref q.1) L
  | [] => .nil
  | _ :: L => .cons rfl (each_rows L)
theorem rows_each {L : List (Addr × List Int)} : ∀ {vs : List Value}, PySem.W.EachIs (fun v (b : Addr × List Int) => v = Value.ref b.1) vs L → vs = L.map fun q => Value.ref q.1 := by
  intro vs e
  induction e with
  | nil => rfl
  | cons r1 _ ih => rw [r1, ih]; rfl
/-- L in order -/
theorem sort_rows {L L1 : List (Addr × List Int)} (pm : L1.Perm L) (nd : (L.map (·.2)).Nodup) : (L1.mergeSort fun p q => tLe p.2 q.2).Perm L ∧ (L1.mergeSort fun p q => tLe p.2 q.2).Pairwise fun p q => p.2 < q.2 := by
  have p1 : (L1.mergeSort fun p q => tLe p.2 q.2).Perm L := (List.mergeSort_perm _ _).trans pm
  refine ⟨p1, ?_⟩
  have h1 : (L1.mergeSort fun p q => tLe p.2 q.2).Pairwise fun p q => tLe p.2 q.2 = true := List.pairwise_mergeSort (fun a b c h1 h2 => by
    unfold tLe at *
    exact decide_eq_true (List.le_trans (of_decide_eq_true h1) (of_decide_eq_true h2))) (fun a b => by
    unfold tLe
    rcases List.le_total a.2 b.2 with h | h
    · rw [decide_eq_true h]; rfl
    · rw [decide_eq_true h, Bool.or_true]) L1
  have h2 : ((L1.mergeSort fun p q => tLe p.2 q.2).map (·.2)).Nodup := (p1.map (·.2)).nodup_iff.mpr nd
  have h3 := List.pairwise_map.mp h2
  refine (h1.and h3).imp fun {p q} h => ?_
  have h4 : p.2 ≤ q.2 := of_decide_eq_true h.1
  by_cases h5 : p.2 < q.2
  · exact h5
  · exact absurd (List.le_antisymm h4 (List.not_lt.mp h5)) h.2
theorem sorted_setA {a : Addr} {L : List (Addr × List Int)} {es : Array (Int × Value)} {ep : Nat} {t : SetTable} {Q : Value → Shared → Prop} (R : SetTR P w s.heap a L es ep t) (hh : A.handled = none) (hu : A.units + 64 < cLine)
    (hQ : ∀ s' p (out : Array Value) (c : Nat) (L' : List (Addr × List Int)), (∀ b o, s.heap.get? b = some o → s'.heap.get? b = some o) → s'.gens = s.gens → s'.os = s.os → s.heap.objs.size ≤ p →
      s'.heap.get? p = some (seqObj "list" out c) → out.toList = L'.map (fun q => Value.ref q.1) → L'.Perm L → L'.Pairwise (fun q r => q.2 < r.2) → Q (.ref p) s') :
    wpAny (model P w) A (call (.builtin "sorted") [.ref a]) Q E s := by
  obtain ⟨o, ho, hex, hd⟩ := R.ob
  have hsz := R.size
  have hfew := R.few
  refine Calls.call_function_entry kind_sorted plain_sorted entry_sorted (args_sorted1 _) ?_
  unfold Builtin.«sorted»
  refine wpAny_bind (m := checkCount "sorted" 1 1 _) (wpAny_pure ?_)
  refine wpAny_bind (collect_set (A := A.in1) hh ⟨o, ho, hex.1, hd⟩ R.fits (by unfold scanBound; omega) R.tab.ris R.led fun s1 vs k1 hz g1 o1 pm => ?_)
  have hes : es.toList.map (·.2) = L.map fun q => Value.ref q.1 := by
    rw [R.rows]
    unfold rowsOf
    rw [List.map_map] <;> rfl
  rw [hes] at pm
  have one : ∀ q ∈ L, ∀ r ∈ L, q.1 = r.1 → q = r := fun q hq r hr e => by
    have a1 := R.tup q hq
    have a2 := R.tup r hr
    rw [e] at a1
    have e2 : q.2 = r.2 := a1.inj a2
    exact Prod.ext e e2
  have perm_of : ∀ L1 : List (Addr × List Int), (∀ q ∈ L1, q ∈ L) → (L1.map (fun q => Value.ref q.1)).Perm (L.map fun q => Value.ref q.1) → L1.Perm L := by
    intro L1 hs pm1
    have nL : L.Nodup := nodup_of_map R.nd
    have nref : (L.map fun q => Value.ref q.1).Nodup := by
      refine List.pairwise_map.mpr (List.Pairwise.imp_of_mem (fun {q r} hq hr hne e => ?_) nL)
      injection e with e
      exact hne (one q hq r hr e)
    have n1 : L1.Nodup := nodup_of_map (pm1.nodup_iff.mpr nref)
    refine (List.perm_ext_iff_of_nodup n1 nL).mpr fun q => ⟨hs q, fun hq => ?_⟩
    have hm : Value.ref q.1 ∈ L1.map (fun q => Value.ref q.1) := pm1.mem_iff.mpr (List.mem_map.mpr ⟨q, hq, rfl⟩)
    obtain ⟨r, hr, e⟩ := List.mem_map.mp hm
    injection e with e
    rw [← one r (hs r hr) q hq e]
    exact hr
  have hvl : vs.length < 64 := by rw [pm.length_eq, List.length_map]; exact hfew
  obtain ⟨L1, hv1, hs1⟩ := refs_rows (L := L) vs fun v hv => by
    obtain ⟨q, hq, e⟩ := List.mem_map.mp (pm.mem_iff.mp hv)
    exact ⟨q, hq, e.symm⟩
  have pL1 : L1.Perm L := perm_of L1 hs1 (by rw [← hv1]; exact pm)
  refine wpAny_bind (wpAny_newList ?_ (by rw [sizeLine_eq]; omega))
  have hoL : (s1.heap.push (seqObj "list" vs.toArray 0)).get? s1.heap.objs.size = some (seqObj "list" vs.toArray 0) := Heap.get?_push_size _ rfl
  have er : ∀ L2 : List (Addr × List Int), (∀ q ∈ L2, q ∈ L) → PySem.W.EachIs (fun v (b : Addr × List Int) => ∃ as, Reads (PySem.W.sortingHeap (s1.heap.push (seqObj "list" vs.toArray 0)) s1.heap.objs.size vs) v (encT b.2) as) (L2.map fun q => Value.ref q.1) L2 := by
    intro L2
    induction L2 with
    | nil => intro _; exact .nil
    | cons q L2 ih =>
      intro h
      refine .cons ?_ (ih fun x hx => h x (List.mem_cons_of_mem _ hx))
      obtain ⟨o', items, n', ho', hc', hd', hi'⟩ := R.tup q (h q List.mem_cons_self)
      have hlt := Heap.lt_size (k1 _ _ ho')
      have h2 : (PySem.W.sortingHeap (s1.heap.push (seqObj "list" vs.toArray 0)) s1.heap.objs.size vs).get? q.1 = some o' := PySem.W.sortingHeap_old (Nat.ne_of_lt hlt) (Heap.get?_push_of_some _ (k1 _ _ ho'))
      exact ⟨_, Reads.tuple h2 hc' hd' (PyProof.Rows.IntsAre.reads _ (ints_of_items hi'))⟩
  have er1 := er L1 hs1
  rw [← hv1] at er1
  have e1 : PySem.W.EachIs (fun v (b : Addr × List Int) => v = Value.ref b.1) vs L1 := by rw [hv1]; exact each_rows L1
  have S := sortsAt_tups (prog := P) (w := w) (A := A.in1.in1) (s := { s1 with heap := PySem.W.sortingHeap (s1.heap.push (seqObj "list" vs.toArray 0)) s1.heap.objs.size vs })
    (PySem.W.each_map (R := fun v d => ∃ as, Reads (PySem.W.sortingHeap (s1.heap.push (seqObj "list" vs.toArray 0)) s1.heap.objs.size vs) v d as) (fun b : Addr × List Int => encT b.2) er1) (alike_tups L1) (are_tups L1) (fun d hd => by
      obtain ⟨b, _, rfl⟩ := List.mem_map.mp hd
      have h1 := encT_depth b.2
      have h2 : A.in1.in1.units = A.units + 2 := rfl
      omega)
  have eo := PySem.W.sortVals_data false e1 er1 (alike_tups L1)
  refine wpAny_bind (wpAny_holding (wpAny_call_entry slot_list_sort ⟨_, hoL, rfl⟩ entry_list_sort (PySem.W.list_sort_vals (s := { s1 with heap := s1.heap.push (seqObj "list" vs.toArray 0) }) hoL S (by rw [sizeLine_eq]; omega) ⟨.none, rfl, ?_⟩) (args_list_sort _)))
  generalize PySem.W.sortVals (PySem.W.dataKind (PySem.W.sortingHeap (s1.heap.push (seqObj "list" vs.toArray 0)) s1.heap.objs.size vs) (L1.map fun b => encT b.2)) false vs vs = out at eo ⊢
  have e2 : PySem.W.dataLe false (fun b : Addr × List Int => encT b.2) = fun p q => tLe p.2 q.2 := funext fun p => funext fun q => tupLe p q
  rw [e2] at eo
  obtain ⟨c, hc⟩ := sortedHeap_at (vs := vs) (out := out.toArray) hoL
  obtain ⟨q1, q2⟩ := sort_rows pL1 R.nd
  refine wpAny_pure ⟨_, rfl, hQ _ s1.heap.objs.size out.toArray c _ (fun b u e => ?_) g1 o1 hz hc (rows_each eo) q1 q2⟩
  have q := k1 b u e
  have hlt := Heap.lt_size q
  show (sortedHeap (s1.heap.push (seqObj "list" vs.toArray 0)) s1.heap.objs.size vs out.toArray).get? b = some u
  rw [sortedHeap_old (Nat.ne_of_lt hlt) (by rw [size_push']; exact Nat.lt_succ_of_lt hlt)]
  exact Heap.get?_push_of_some _ q
end
section
variable {X : Cx}
/-- sorted(set), a set of int tuples -/
def rSortSetT (K : PySem.W.Frag) (P : Program) (w : World) : List V → Hp → VK → Prop := fun vs H Q => ∃ (a : Addr) (L : List (Addr × List Int)), vs = [V.ref a] ∧ H a = some (SetTO P w a L) ∧ (∀ p ∈ L, SqT K H p.1 (p.2.map V.int)) ∧
  ∀ (L' : List (Addr × List Int)) (p : Addr), L'.Perm L → L'.Pairwise (fun q r => q.2 < r.2) → L'.length < 64 → H p = none → Q (.ref p) (upd H p (.lst (L'.map fun q => V.ref q.1)))
theorem cr_sortSetT (hc : X.calm = true) (hu : X.A.units + 64 < cLine) : CallR X (.builtin "sorted") (rSortSetT X.K X.prog X.w) := by
  intro pins s σ H vs us Q I r h
  obtain ⟨a, L, rfl, ha, hk, q⟩ := h
  have R0 : SetT0 X.prog X.w s.heap a L := (I.hok a _ ha).1
  obtain ⟨es, ep, t, R⟩ := R0.full fun p hp => I.isT (hk p hp)
  rw [Vals.ref1 r]
  refine sorted_setA R (I.ok.hd hc) hu fun s' p out c L' k g o hp hg hout pm pw => ?_
  have hfew : L'.length < 64 := by rw [pm.length_eq]; exact R.few
  have hlen : (L'.map fun q => V.ref q.1).length ≤ sizeLine := by rw [List.length_map, sizeLine_eq]; omega
  have hn : H p = none := I.hok.fresh hp
  have hv : Vals (L'.map fun q => V.ref q.1) out.toList := by rw [hout]; exact vals_of_refs L'
  have J : Inv X pins σ (upd H p (.lst (L'.map fun q => V.ref q.1))) { s with heap := s'.heap, gens := s'.gens, drawn := s'.drawn, toks := s'.toks } :=
    I.call (ch := []) (Un.laid k hp hn) (I.hok.laid k hp ⟨hlen, out.toList, c, hv, hg⟩) (by rw [g]; exact I.bare) (fun _ z => nomatch z)
  have e : s' = { s with heap := s'.heap, gens := s'.gens, drawn := s'.drawn, toks := s'.toks } := by
    cases s'
    cases s
    cases o
    rfl
  rw [e]
  exact ⟨.ref p, _, J, rfl, q L' p pm pw hfew hn⟩
end
section
variable {P : Program} {w : World} {A : Around} {E : Value → Shared → Prop} {s : Shared}
/-- set.__init__ of a new set at the heap's end, from a list of ints -/
theorem init_tup {l : Addr} {items : Array Value} (ns : List Int) {B : Around} (hh : B.in1.in1.handled = none) (hl : s.heap.IsTuple l items) (hit : IntsAre items.toList ns) (hb : ns.length + 1 < scanBound) {R : PySem.Fin → Shared → Prop} {F' : Value → Shared → Prop}
    (h : ∀ (h' : Heap) (tk c : Nat), SetR w h' s.heap.objs.size (fun j => decide (j ∈ ns)) c → c ≤ ns.length → (∀ b o, s.heap.get? b = some o → h'.get? b = some o) → R (.done (.ret .none)) { s with heap := h', toks := tk }) :
    wpAny (model P w) B.in1 (Builtin.«set.__init__» ⟨[.ref s.heap.objs.size, .ref l], []⟩) R F' { s with heap := s.heap.push (noSet w) } := by
  have hisz : items.size = ns.length := (Array.length_toList (xs := items)).symm.trans (IntsAre.length hit)
  have hS : (s.heap.push (noSet w)).get? s.heap.objs.size = some (noSet w) := Heap.get?_push_size _ rfl
  obtain ⟨⟨ocls, odict, odata, oslots⟩, hol, hcl, nl, hdl⟩ := hl
  obtain rfl : ocls = .type "tuple" := hcl
  obtain rfl : odata = .seq items nl := hdl
  have hol' : (s.heap.push (noSet w)).get? l = some { cls := .type "tuple", dict := odict, data := .seq items nl, slots := oslots } := Heap.get?_push_of_some _ hol
  have hsls := F.sub_tuple_set
  have hslf := F.sub_tuple_frozenset
  have hne : (Value.type "tuple" == Value.type "dict") = false := by decide
  have hl1 : (s.heap.push (noSet w)).IsTuple l items := ⟨_, hol', rfl, nl, rfl⟩
  unfold Builtin.«set.__init__» noKeywords Builtin.Frozenset.updateFrom
  generalize hPI : pyIter = PI
  wp_walk
  subst hPI
  refine wpAny_pyIter_tuple hl1 (wpAny_bind (wpAny_runValue ?_))
  have hlS : l < s.heap.objs.size := Heap.lt_size hol
  have size1 : (s.heap.push (noSet w)).objs.size = s.heap.objs.size + 1 := Heap.size_push ..
  have apart : ∀ b, b < s.heap.objs.size → b ≠ (s.heap.push (noSet w)).objs.size := fun b hb z => by
    rw [size1] at z
    omega
  have hval : ∀ (i : Nat) (v : Value), items[i]? = some v → ∃ k t, ns[i]? = some k ∧ v = .int k t := fun i v hv => by
    have hi : i < ns.length := hisz ▸ (Array.getElem?_eq_some_iff.mp hv).1
    obtain ⟨t, e⟩ := PyProof.Rows.IntsAre.int_at hit i v (by rw [Array.getElem?_toList]; exact hv)
    exact ⟨ns[i], t, List.getElem?_eq_getElem hi, by rw [e, List.getD_eq_getElem?_getD, List.getElem?_eq_getElem hi] <;> rfl⟩
  refine set_update_ints ((Walks.tuple hh _ l (apart l hlS) items).toS) s.heap.objs.size (fun z => ?_) ns hisz hb hval (items.size - 0) 0 _ (by omega) (Nat.zero_le _)
    ⟨⟨_, Heap.get?_push_size _ rfl, rfl, rfl⟩, hl1.push _⟩ ⟨0, Nat.le_refl 0, setR_new_at (Heap.get?_push_of_some _ hS)⟩ fun s' c hm hc hS' => ?_
  · rcases List.mem_cons.mp z with z | z
    · rw [size1] at z
      exact absurd z (Nat.ne_of_lt (Nat.lt_succ_self _))
    · exact absurd (List.mem_singleton.mp z) (Nat.ne_of_gt hlS)
  · obtain ⟨h', g2, d', tk', os'⟩ := s'
    obtain rfl : g2 = s.gens := hm.gens
    obtain rfl : d' = s.drawn := hm.drawn
    obtain rfl : os' = s.os := hm.os
    refine wpAny_pure (wpAny_pure (h h' tk' c hS' (hisz ▸ hc) fun b o e => ?_))
    have hb0 : b < s.heap.objs.size := Heap.lt_size e
    refine hm.heap b o (fun z => ?_) (Heap.get?_push_of_some _ (Heap.get?_push_of_some _ e))
    rcases List.mem_cons.mp z with z | z
    · exact absurd z (Nat.ne_of_lt hb0)
    · exact apart b hb0 (List.mem_singleton.mp z)
/-- set(xs) -/
theorem set_of_tup {l : Addr} {items : Array Value} (ns : List Int) {Q : Value → Shared → Prop} (hh : A.handled = none) (hl : s.heap.IsTuple l items) (hit : IntsAre items.toList ns) (hb : ns.length + 1 < scanBound)
    (h : ∀ (h' : Heap) (tk c : Nat), SetR w h' s.heap.objs.size (fun j => decide (j ∈ ns)) c → c ≤ ns.length → (∀ b o, s.heap.get? b = some o → h'.get? b = some o) → Q (.ref s.heap.objs.size) { s with heap := h', toks := tk }) :
    wpAny (model P w) A (call (.type "set") [.ref l]) Q E s := by
  obtain ⟨c, tl, hmro⟩ := F.called_set.mro
  have hmade := F.called_set.made
  have hsub := F.called_set.sub
  refine wpAny_call (codeAny_of_tree ?_)
  show wpAny _ _ (callAny (.type "set") _) _ _ _
  refine wpAny_pure ⟨Code.quiet_builtin _ (by decide +kernel), codeAny_builtin F.entry_type_call ?_⟩
  rw [Around.under_plain (weight_type_call_type "set" [.ref l] []) rfl]
  have h1 := F.called_set.notType
  have h2 := F.called_set.canCreate
  have hct := F.typeCall_set_1 (.ref l)
  repeat (any_goals (first | assumption | wp_step))
  refine codeAny_mono (code_set_led1 (.ref l) (E := E) (Q₁ := fun obj s₁ => obj = .ref s.heap.objs.size ∧ s₁ = { s with heap := s.heap.push (noSet w) }) ⟨rfl, rfl⟩) fun r s₁ hr => ?_
  match r, hr with
  | .error e, hr => exact hr
  | .ok .next, hr => exact False.elim hr
  | .ok .brk, hr => exact False.elim hr
  | .ok .cont, hr => exact False.elim hr
  | .ok (.ret obj), hr =>
    obtain ⟨rfl, rfl⟩ := hr
    have hS : (s.heap.push (noSet w)).get? s.heap.objs.size = some (noSet w) := Heap.get?_push_size _ rfl
    have hT : Shared.TypeIs { s with heap := s.heap.push (noSet w) } (.ref s.heap.objs.size) "set" := ⟨_, hS, rfl⟩
    have hli := F.called_set.init.lookup
    have hbi := F.called_set.init.bind (.ref s.heap.objs.size)
    repeat (any_goals (first | assumption | wp_step))
    refine codeAny_mono (codeAny_call_builtin (R := wants (fun r s₂ => r = .none ∧ ∃ h' tk c, s₂ = { s with heap := h', toks := tk } ∧ SetR w h' s.heap.objs.size (fun j => decide (j ∈ ns)) c ∧ c ≤ ns.length ∧ (∀ b o, s.heap.get? b = some o → h'.get? b = some o)) E)
      F.called_set.init.plain F.entry_set_init (check_set_init_1 hT (init_tup ns (by simp [hh]) hl hit hb fun h' tk c a1 a2 a3 => ⟨rfl, h', tk, c, rfl, a1, a2, a3⟩))) fun r₂ s₂ hr₂ => ?_
    match r₂, hr₂ with
    | .error e, hr => exact hr
    | .ok .next, hr => exact False.elim hr
    | .ok .brk, hr => exact False.elim hr
    | .ok .cont, hr => exact False.elim hr
    | .ok (.ret r), ⟨e, h', tk, c, e2, a1, a2, a3⟩ =>
      subst e e2
      repeat (any_goals (first | assumption | wp_step))
      exact h _ _ _ a1 a2 a3
end
section
variable {X : Cx}
/-- set(xs), xs a list or a tuple of ints -/
def rSetS (K : PySem.W.Frag) (w : World) : List V → Hp → VK → Prop := fun vs H Q => ∃ (l : Addr) (ns : List Int), vs = [.ref l] ∧ (SqL K H l (ns.map V.int) ∨ SqT K H l (ns.map V.int)) ∧ ns.length ≤ 1000 ∧ ∀ p c, c ≤ ns.length → H p = none → Q (.ref p) (upd H p (SetO w p (fun j => decide (j ∈ ns)) c))
theorem cr_setS (hc : X.calm = true) : CallR X (.type "set") (rSetS X.K X.w) := by
  intro pins s σ H vs us Q I r h
  obtain ⟨l, ns, rfl, hq, hz, q⟩ := h
  rcases hq with hq | hq
  · exact cr_setI hc pins s σ H _ us Q I r ⟨l, ns, rfl, hq, hz, q⟩
  rw [Vals.ref1 r]
  obtain ⟨its, rv, hl, _⟩ := I.tuple hq
  refine set_of_tup ns (I.ok.hd hc) hl (by simpa using intsAre_of rv) (Nat.lt_of_le_of_lt (Nat.succ_le_succ hz) (by decide)) fun h' tk c a1 a2 a3 => ?_
  exact ⟨.ref s.heap.objs.size, upd H s.heap.objs.size (SetO X.w s.heap.objs.size (fun j => decide (j ∈ ns)) c), I.laid (t' := tk) a3 (Nat.le_refl _) (setO_new a1), rfl, q _ c a2 (I.hok.fresh (Nat.le_refl _))⟩
end
theorem units65 {k : Nat} {A : PySem.Around} (r : Room k A) : A.units + 65 < PySem.cLine := by have := r.un; omega
/-- a list or a tuple, walked -/
def iSeq (K : PySem.W.Frag) (te : TE) : TI := fun σ H R => iList K te σ H R ∨ iTup K te σ H R
theorem pi_seq {X : Cx} {tg l : Expr} {tl : TE} (hl : PE X l tl) : PI X tg l (iSeq X.K tl) :=
  ⟨fun pins s σ H R I h => h.elim ((pi_list hl).run pins s σ H R I) ((pi_tup hl).run pins s σ H R I)⟩
section
variable {K : PySem.W.Frag} {H H' : Hp} {Q : VK} {a b l p t : Addr} {xs ys : List V} {S : List Addr} {ns ms : List Int} {c i : Int} {w : World} {P : Program} {σ : L2.St} {te : TE}
/-! ### in -/
theorem inV_int (c : Int) : ∀ ns : List Int, inV (.int c) (ns.map V.int) = decide (c ∈ ns)
  | [] => by simp [inV]
  | n :: ns => by
    have e : eqV (.int n) (.int c) = decide (n = c) := by rw [Bool.eq_iff_iff]; simp [eqV]
    have ih := inV_int c ns
    unfold inV at ih ⊢
    rw [List.map_cons, List.any_cons, ih, e]
    by_cases h : n = c
    · subst h
      simp
    · have h2 : ¬ c = n := fun z => h z.symm
      simp [h, h2]
theorem flat_ints (ns : List Int) : (ns.map V.int).all flatV = true := by
  rw [List.all_map, List.all_eq_true]
  intro _ _
  rfl
theorem w_inT (h : SqT K H p (ns.map V.int)) (q : Q (.bl (decide (c ∈ ns))) H) : rIn K false (.int c) (.ref p) H Q := ⟨p, _, rfl, .inr h, rfl, flat_ints ns, by
  rw [if_neg (by decide), inV_int]
  exact q⟩
theorem w_ninT (h : SqT K H p (ns.map V.int)) (q : Q (.bl (!decide (c ∈ ns))) H) : rIn K true (.int c) (.ref p) H Q := ⟨p, _, rfl, .inr h, rfl, flat_ints ns, by
  rw [if_pos rfl, inV_int]
  exact q⟩
/-! ### ==, != of lists and tuples of ints -/
theorem lay_ints : ∀ ns : List Int, PyData.canLayAll0 (ns.map PyData.int) = true
  | [] => by simp [PyData.canLayAll0]
  | n :: ns => by simp [PyData.canLayAll0, PyData.canLay0, lay_ints ns]
theorem shaped_tup (ns : List Int) : SeqAt.shaped (encT ns) = true := by
  unfold SeqAt.shaped
  rw [Bool.and_eq_true]
  refine ⟨?_, decide_eq_true (Nat.le_trans (encT_depth ns) (by decide))⟩
  unfold encT PyData.canLay0
  exact lay_ints ns
theorem encL_depth (ns : List Int) : (PyData.list (ns.map .int)).depth ≤ 1 := by
  simp only [PyData.depth, PySem.W.depth_ints]
  decide
theorem shaped_list (ns : List Int) : SeqAt.shaped (.list (ns.map .int)) = true := by
  unfold SeqAt.shaped
  rw [Bool.and_eq_true]
  refine ⟨?_, decide_eq_true (Nat.le_trans (encL_depth ns) (by decide))⟩
  unfold PyData.canLay0
  exact lay_ints ns
theorem eqv_list : ∀ xs ys : List Int, PyData.eqv (.list (xs.map .int)) (.list (ys.map .int)) = decide (xs = ys) := fun xs ys => by
  have h := eqv_ints xs ys
  simp only [PyData.eqv] at h ⊢
  exact h
theorem dp_intsL (K : PySem.W.Frag) (H : Hp) : ∀ ns : List Int, DpAll K H (ns.map V.int) (ns.map PyData.int)
  | [] => .nil
  | n :: ns => .cons (.int n) (dp_intsL K H ns)
theorem dp_lst (h : SqL K H l (ns.map V.int)) : Dp K H (.ref l) (.list (ns.map PyData.int)) := .lst h (dp_intsL K H ns)
theorem w_neT (h1 : SqT K H a (ns.map V.int)) (h2 : SqT K H b (ms.map V.int)) (q : Q (.bl (!decide (ns = ms))) H) : rNeD K (.ref a) (.ref b) H Q := ⟨_, _, dp_tup h1, dp_tup h2, shaped_tup ns, shaped_tup ms, by rw [eqv_ints]; exact q⟩
theorem w_neL (h1 : SqL K H a (ns.map V.int)) (h2 : SqL K H b (ms.map V.int)) (q : Q (.bl (!decide (ns = ms))) H) : rNeD K (.ref a) (.ref b) H Q := ⟨_, _, dp_lst h1, dp_lst h2, shaped_list ns, shaped_list ms, by rw [eqv_list]; exact q⟩
theorem w_eqL (h1 : SqL K H a (ns.map V.int)) (h2 : SqL K H b (ms.map V.int)) (q : Q (.bl (decide (ns = ms))) H) : rEqD K (.ref a) (.ref b) H Q := ⟨_, _, dp_lst h1, dp_lst h2, shaped_list ns, shaped_list ms, by rw [eqv_list]; exact q⟩
theorem w_eqT (h1 : SqT K H a (ns.map V.int)) (h2 : SqT K H b (ms.map V.int)) (q : Q (.bl (decide (ns = ms))) H) : rEqD K (.ref a) (.ref b) H Q := ⟨_, _, dp_tup h1, dp_tup h2, shaped_tup ns, shaped_tup ms, by rw [eqv_ints]; exact q⟩
/-! ### a tuple in a list of tuples -/
theorem any_eqv (fs : List (List Int)) (f : List Int) : ((fs.map encT).any fun z => PyData.eqv z (encT f)) = decide (f ∈ fs) := by
  induction fs with
  | nil => simp
  | cons g fs ih =>
    rw [List.map_cons, List.any_cons, ih]
    unfold encT
    rw [eqv_ints]
    by_cases h : g = f
    · subst h
      simp
    · have h2 : ¬ f = g := fun z => h z.symm
      simp [h, h2]
theorem lay_tups : ∀ fs : List (List Int), PyData.canLayAll0 (fs.map encT) = true
  | [] => by simp [PyData.canLayAll0]
  | f :: fs => by
    simp only [List.map_cons, PyData.canLayAll0, lay_tups fs, Bool.and_true]
    unfold encT PyData.canLay0
    exact lay_ints f
theorem shaped_tups (fs : List (List Int)) : SeqAt.shaped (.list (fs.map encT)) = true := by
  unfold SeqAt.shaped
  rw [Bool.and_eq_true]
  refine ⟨?_, decide_eq_true ?_⟩
  · unfold PyData.canLay0
    exact lay_tups fs
  · have := depthAll_le (m := 1) (xs := fs.map encT) fun x hx => by
      obtain ⟨f, _, rfl⟩ := List.mem_map.mp hx
      exact encT_depth f
    simp only [PyData.depth]
    omega
theorem w_ninD {fs : List (List Int)} (h1 : SqT K H t (ns.map V.int)) (h2 : LT K H l fs) (q : Q (.bl (!decide (ns ∈ fs))) H) : rNotInD K (.ref t) (.ref l) H Q := ⟨_, _, dp_tup h1, h2.dp, shaped_tup ns, shaped_tups fs, by
  rw [show (PyData.tuple (ns.map .int)) = encT ns from rfl, any_eqv]
  exact q⟩
theorem w_inD {fs : List (List Int)} (h1 : SqT K H t (ns.map V.int)) (h2 : LT K H l fs) (q : Q (.bl (decide (ns ∈ fs))) H) : rInD K (.ref t) (.ref l) H Q := ⟨_, _, dp_tup h1, h2.dp, shaped_tup ns, shaped_tups fs, by
  rw [show (PyData.tuple (ns.map .int)) = encT ns from rfl, any_eqv]
  exact q⟩
/-! ### lists: pop, max, ranges, reversal -/
theorem w_popAt {k : Nat} {y : V} (h : H l = some (.lst xs)) (e : i = (k : Int)) (hk : k < 1000000) (hy : xs[k]? = some y) (q : ∀ H', Ch [l] H H' → H' l = some (.lst (xs.eraseIdx k)) → Q y H') : rPopAt (.ref l) [.int i] H Q := by
  subst e
  have hl : k < xs.length := (List.getElem?_eq_some_iff.mp hy).1
  refine ⟨l, xs, _, k, y, rfl, rfl, h, by omega, by omega, ?_, hy, q _ (.put h) upd_same⟩
  unfold seqIndex?
  simp only [show ¬ ((k : Int) < 0) by omega, if_false]
  rw [if_pos (by simp; omega)]
  rfl
theorem w_max (h : SqL K H l (ns.map V.int)) (h0 : 0 < ns.length) (q : ∀ m, m ∈ ns → (∀ y ∈ ns, y ≤ m) → Q (.int m) H) : rMax K [.ref l] H Q := ⟨l, ns, rfl, h, h0, q⟩
/-- 0, 1, .. below n -/
def upto (n : Nat) : List Int := (List.range n).map fun (k : Nat) => (k : Int)
theorem rgV_upto (n : Nat) : rgV 0 (n : Int) = (upto n).map V.int := by
  unfold rgV upto
  rw [show ((n : Int) - 0).toNat = n by omega, List.map_map]
  refine List.map_congr_left fun k _ => ?_
  show V.int (0 + (k : Int)) = V.int (k : Int)
  rw [Int.zero_add]
def RgL (x : V) (H : Hp) (Q : VK) : Prop := ∃ n, x = .int n ∧ RgOk 0 n ∧ ∀ q, H q = none → Q (.ref q) (upd H q (.lst (rgV 0 n)))
def RgT (x : V) (H : Hp) (Q : VK) : Prop := ∃ n, x = .int n ∧ RgOk 0 n ∧ ∀ q, H q = none → Q (.ref q) (upd H q (.tup (rgV 0 n)))
theorem w_lstRg (h : te σ H fun x H1 => RgL x H1 Q) : tLstRg (tRg1 te) σ H Q := h
theorem w_tupRg (h : te σ H fun x H1 => RgT x H1 Q) : tTupRg (tRg1 te) σ H Q := h
theorem w_rgL {n : Nat} (e : i = (n : Int)) (hn : n ≤ 1000000) (q : ∀ p H', H p = none → Ch [] H H' → H' p = some (.lst ((upto n).map V.int)) → Q (.ref p) H') : RgL (.int i) H Q := by
  subst e
  refine ⟨_, rfl, .of_le (by decide) (by omega) (by decide) (by omega), fun p hp => ?_⟩
  rw [rgV_upto]
  exact q p _ hp (.new hp) upd_same
theorem w_rgT {n : Nat} (e : i = (n : Int)) (hn : n ≤ 1000000) (q : ∀ p H', Ch [] H H' → SqT K H' p ((upto n).map V.int) → Q (.ref p) H') : RgT (.int i) H Q := by
  subst e
  refine ⟨_, rfl, .of_le (by decide) (by omega) (by decide) (by omega), fun p hp => ?_⟩
  rw [rgV_upto]
  exact q p _ (.new hp) (sqt_new upd_same)
def RevGo (K : PySem.W.Frag) (x : V) (H : Hp) (Q : VK) : Prop := ∃ a xs, x = .ref a ∧ SqL K H a xs ∧ ∀ p, H p = none → Q (.ref p) (upd H p (.lst xs.reverse))
theorem w_revL (h : te σ H fun x H1 => RevGo K x H1 Q) : tRevL K te σ H Q := h
theorem w_revGo (h : SqL K H a xs) (q : ∀ p H', H p = none → Ch [] H H' → H' p = some (.lst xs.reverse) → Q (.ref p) H') : RevGo K (.ref a) H Q := ⟨a, xs, rfl, h, fun p hp => q p _ hp (.new hp) upd_same⟩
theorem w_isB {x y : Bool} (q : Q (.bl (decide (x = y))) H) : rIsB (.bl x) (.bl y) H Q := ⟨x, y, rfl, rfl, q⟩
theorem w_notB {x y : Bool} (q : Q (.bl (!decide (x = y))) H) : rNotB (.bl x) (.bl y) H Q := ⟨x, y, rfl, rfl, q⟩
theorem w_isiB {x : Bool} (q : Q (.bl true) H) : rIsi K [.bl x, .ty "bool"] H Q := ⟨_, _, _, _, true, rfl, .ty "bool", .base (.bl x), by simp [PySem.W.kitOne], q⟩
theorem w_neB {x y : Bool} (q : Q (.bl (!decide (x = y))) H) : rNe (.bl x) (.bl y) H Q := ⟨rfl, by rw [show decide (V.bl x = V.bl y) = decide (x = y) by simp]; exact q⟩
/-! ### sets -/
theorem w_setSL (h : SqL K H l (ns.map V.int)) (hz : ns.length ≤ 1000) (q : ∀ p c H', c ≤ ns.length → H p = none → Ch [] H H' → H' p = some (SetO w p (fun j => decide (j ∈ ns)) c) → Q (.ref p) H') : rSetS K w [.ref l] H Q :=
  ⟨l, ns, rfl, .inl h, hz, fun p c hc hp => q p c _ hc hp (.new hp) upd_same⟩
theorem w_setST (h : SqT K H l (ns.map V.int)) (hz : ns.length ≤ 1000) (q : ∀ p c H', c ≤ ns.length → H p = none → Ch [] H H' → H' p = some (SetO w p (fun j => decide (j ∈ ns)) c) → Q (.ref p) H') : rSetS K w [.ref l] H Q :=
  ⟨l, ns, rfl, .inr h, hz, fun p c hc hp => q p c _ hc hp (.new hp) upd_same⟩
theorem w_setOfT {ks : List (Addr × List Int)} (h : SqL K H l (ks.map fun p => V.ref p.1)) (ht : ∀ p ∈ ks, SqT K H p.1 (p.2.map V.int)) (hz : ks.length < 64)
    (q : ∀ a L H', H a = none → (∀ p ∈ L, p ∈ ks) → (∀ p ∈ ks, p.2 ∈ L.map (·.2)) → Ch [] H H' → H' a = some (SetTO P w a L) → Q (.ref a) H') : rSetOfT K P w [.ref l] H Q :=
  ⟨l, ks, rfl, h, ht, hz, fun a L ha h1 h2 => q a L _ ha h1 h2 (.new ha) upd_same⟩
/-- sorted(set(xs)): rising, each once -/
theorem w_sortSetT {L : List (Addr × List Int)} (h : H a = some (SetTO P w a L)) (ht : ∀ p ∈ L, SqT K H p.1 (p.2.map V.int))
    (q : ∀ l fs H', H l = none → Ch [] H H' → fs.Pairwise (· < ·) → fs.length < 64 → (∀ f, f ∈ fs ↔ f ∈ L.map (·.2)) → LT K H' l fs → Q (.ref l) H') : rSortSetT K P w [.ref a] H Q := by
  refine ⟨a, L, rfl, h, ht, fun L' p pm pw hf hp => q p (L'.map (·.2)) _ hp (.new hp) (List.pairwise_map.mpr pw) (by rw [List.length_map]; exact hf) (fun f => (pm.map (·.2)).mem_iff) ⟨L', upd_same, fun b hb => ?_, rfl⟩⟩
  exact (Ch.new (S := []) hp).sqt (ht b (pm.mem_iff.mp hb))
/-- sorted(xs), xs tuples -/
theorem w_sortT {fs : List (List Int)} (h : LT K H a fs) (hz : fs.length ≤ 1000000) (q : ∀ l H', H l = none → Ch [] H H' → LT K H' l (fs.mergeSort tLe) → Q (.ref l) H') : rSortT K [.ref a] H Q := by
  obtain ⟨bs, e, ht, rfl⟩ := h
  rw [List.length_map] at hz
  refine ⟨a, bs, rfl, SqL.of e, ht, hz, w_new fun l H' hn c e' => q l H' hn c ⟨_, e', fun b hb => c.sqt (ht b (List.mem_mergeSort.mp hb)), ?_⟩⟩
  exact PySem.W.sort_maps (r := fun p q : Addr × List Int => tLe p.2 q.2) (s := tLe) (·.2) fun _ _ _ _ => rfl
/-! ### shapes: tuples of tuples of ints -/
def Shp (K : PySem.W.Frag) (H : Hp) (t : Addr) (ps : List (List Int)) : Prop := ∃ bs : List (Addr × List Int), SqT K H t (bs.map fun b => .ref b.1) ∧ (∀ b ∈ bs, SqT K H b.1 (b.2.map V.int)) ∧ bs.map (·.2) = ps
theorem Shp.keep {ps : List (List Int)} (h : Shp K H t ps) (c : Ch S H H') : Shp K H' t ps := let ⟨bs, h1, h2, h3⟩ := h; ⟨bs, c.sqt h1, c.sqts h2, h3⟩
theorem LT.lst {fs : List (List Int)} (h : LT K H l fs) : ∃ xs, H l = some (.lst xs) := let ⟨_, e, _⟩ := h; ⟨_, e⟩
theorem LT.ne {fs : List (List Int)} (h : LT K H l fs) (n : H p = none) : l ≠ p := let ⟨_, e, _⟩ := h; ne_new e n
/-- a piece of a shape -/
theorem w_ixShp {ps : List (List Int)} {k : Nat} (h : Shp K H t ps) (e : i = (k : Int)) (hk : k < ps.length) (q : ∀ u, SqT K H u ((ps.getD k []).map V.int) → Q (.ref u) H) : rIxT K (.ref t) (.int i) H Q := by
  obtain ⟨bs, h1, h2, rfl⟩ := h
  subst e
  rw [List.length_map] at hk
  refine w_ixT (v := .ref bs[k].1) h1 (atI_nat (by rw [List.getElem?_map, List.getElem?_eq_getElem hk]; rfl)) (q _ ?_)
  have := h2 bs[k] (List.getElem_mem hk)
  rwa [show (bs.map (·.2)).getD k [] = bs[k].2 by rw [List.getD_eq_getElem?_getD, List.getElem?_map, List.getElem?_eq_getElem hk]; rfl]
theorem w_ixLT {ps : List (List Int)} {k : Nat} (h : LT K H t ps) (e : i = (k : Int)) (hk : k < ps.length) (q : ∀ u, SqT K H u ((ps.getD k []).map V.int) → Q (.ref u) H) : rIxL K (.ref t) (.int i) H Q := by
  obtain ⟨bs, h1, h2, rfl⟩ := h
  subst e
  rw [List.length_map] at hk
  refine w_ixL (v := .ref bs[k].1) (SqL.of h1) (atI_nat (by rw [List.getElem?_map, List.getElem?_eq_getElem hk]; rfl)) (q _ ?_)
  have := h2 bs[k] (List.getElem_mem hk)
  rwa [show (bs.map (·.2)).getD k [] = bs[k].2 by rw [List.getD_eq_getElem?_getD, List.getElem?_map, List.getElem?_eq_getElem hk]; rfl]
theorem Shp.len {ps : List (List Int)} (h : Shp K H t ps) : ∃ xs, SqT K H t xs ∧ xs.length = ps.length := let ⟨bs, h1, _, h3⟩ := h; ⟨_, h1, by rw [← h3, List.length_map, List.length_map]⟩
/-- a list of tuples, made a tuple -/
theorem w_shape {fs : List (List Int)} (h : LT K H l fs) (q : ∀ t H', Ch [] H H' → Shp K H' t fs → Q (.ref t) H') : rTupOf K [.ref l] H Q := by
  obtain ⟨bs, e, ht, h3⟩ := h
  exact w_tupOf (SqL.of e) fun t H' c e' => q t H' c ⟨bs, e', c.sqts ht, h3⟩
end
/-! ### comprehensions that make lists of int tuples -/
section
variable {K : PySem.W.Frag} {H H1 : Hp} {Q : VK} {a L : Addr} {xs : List V} {j n : Nat} {te : TE} {vs : List Nat} {σ : L2.St} {F : Nat → List Int} {i : Nat} {acc : List V}
def Made (K : PySem.W.Frag) (H : Hp) (F : Nat → List Int) (_ : Addr) (i : Nat) (acc : List V) (H' : Hp) : Prop := Ch [] H H' ∧ ∃ cs : List (Addr × List Int), acc = cs.map (fun c => V.ref c.1) ∧ (∀ c ∈ cs, SqT K H' c.1 (c.2.map V.int)) ∧ cs.map (·.2) = (List.range i).map F
theorem made_none (c : Ch [] H H1) : Made K H F L 0 [] H1 := ⟨c, [], rfl, (fun _ h => nomatch h), rfl⟩
theorem made_turn (hL : H L = none) (ha : acc.length ≤ i) (hi : i < 10000000) (e : H1 L = some (.lst acc)) (m : Made K H F L i acc H1)
    (ht : ∀ (Q : VK), (∀ t H2, Ch [] H1 H2 → SqT K H2 t ((F i).map V.int) → Q (.ref t) H2) → te σ H1 Q) : LcTurn (Made K H F) tYes te L i σ H1 := by
  obtain ⟨c, cs, rfl, h1, h2⟩ := m
  refine w_turnY (ht _ fun t H2 c2 e2 => w_lcput (c2.lst e) ha hi fun H5 c5 e5 => ?_)
  refine ⟨Ch.old (c.trans c2) hL c5, cs ++ [(t, F i)], by rw [List.map_append]; rfl, fun b hb => ?_, by rw [List.map_append, h2, List.range_succ, List.map_append]; rfl⟩
  rcases List.mem_append.mp hb with h | h
  · exact c5.sqt (c2.sqt (h1 b h))
  · rw [List.mem_singleton.mp h]
    exact c5.sqt e2
theorem made_end (e : H1 L = some (.lst acc)) (m : Made K H F L i acc H1) : LT K H1 L ((List.range i).map F) := by
  obtain ⟨c, cs, rfl, h1, h2⟩ := m
  exact ⟨cs, e, h1, h2⟩
theorem w_lcRT (F : Nat → List Int) (hw : ∀ x, wipe ((wipe σ vs).set j (some x)) vs = wipe σ vs) (hn : n ≤ 10000000)
    (ht : ∀ (i : Nat) H1 (Q : VK), i < n → Ch [] H H1 → (∀ t H2, Ch [] H1 H2 → SqT K H2 t ((F i).map V.int) → Q (.ref t) H2) → te ((wipe σ vs).set j (some (.int (i : Int)))) H1 Q)
    (k : ∀ l H', H l = none → Ch [] H H' → LT K H' l ((List.range n).map F) → Q (.ref l) H') : LcGo (Itr 0 n) (gName j) tYes te vs σ H Q :=
  w_lcR (Made K H F) (fun _ _ _ c _ => made_none c) hw (fun L i acc H' hL hi ha e m => made_turn hL ha (by omega) e m fun Q q => ht i H' Q hi m.1 q) (fun L acc H' hL e m => k L H' hL m.1 (made_end e m))
theorem w_lcTT (F : Nat → List Int) (hs : SqT K H a xs) (hw : ∀ x, wipe ((wipe σ vs).set j (some x)) vs = wipe σ vs) (hn : xs.length ≤ 10000000)
    (ht : ∀ (i : Nat) x H1 (Q : VK), xs[i]? = some x → Ch [] H H1 → (∀ t H2, Ch [] H1 H2 → SqT K H2 t ((F i).map V.int) → Q (.ref t) H2) → te ((wipe σ vs).set j (some x)) H1 Q)
    (k : ∀ l H', H l = none → Ch [] H H' → LT K H' l ((List.range xs.length).map F) → Q (.ref l) H') : LcGo (Itt K a) (gName j) tYes te vs σ H Q :=
  w_lcT (Made K H F) (fun _ _ _ c _ => made_none c) hw (fun L i acc H' hL e m => m.1.sqt hs) (fun L i x acc H' hL hx ha e m => made_turn hL ha (by have := (List.getElem?_eq_some_iff.mp hx).1; omega) e m fun Q q => ht i x H' Q hx m.1 q) (fun L acc H' hL e m => k L H' hL m.1 (made_end e m))
theorem w_lcLT (F : Nat → List Int) (hs : SqL K H a xs) (hw : ∀ x, wipe ((wipe σ vs).set j (some x)) vs = wipe σ vs) (hn : xs.length ≤ 10000000)
    (ht : ∀ (i : Nat) x H1 (Q : VK), xs[i]? = some x → Ch [] H H1 → (∀ t H2, Ch [] H1 H2 → SqT K H2 t ((F i).map V.int) → Q (.ref t) H2) → te ((wipe σ vs).set j (some x)) H1 Q)
    (k : ∀ l H', H l = none → Ch [] H H' → LT K H' l ((List.range xs.length).map F) → Q (.ref l) H') : LcGo (Itl K a) (gName j) tYes te vs σ H Q :=
  w_lcL (Made K H F) (fun _ _ _ c _ => made_none c) hw (fun L i acc H' hL e m => m.1.sql hs) (fun L i x acc H' hL hx ha e m => made_turn hL ha (by have := (List.getElem?_eq_some_iff.mp hx).1; omega) e m fun Q q => ht i x H' Q hx m.1 q) (fun L acc H' hL e m => k L H' hL m.1 (made_end e m))
end
theorem int_at {ns : List Int} {i : Nat} {x : V} (h : (ns.map V.int)[i]? = some x) : i < ns.length ∧ x = .int (ns.getD i 0) := by
  rw [List.getElem?_map] at h
  obtain ⟨n, h1, rfl⟩ := Option.map_eq_some_iff.mp h
  refine ⟨(List.getElem?_eq_some_iff.mp h1).1, ?_⟩
  rw [List.getD_eq_getElem?_getD, h1]
  rfl
theorem map_getD {α : Type} (ns : List Int) (g : Int → α) : (List.range ns.length).map (fun i => g (ns.getD i 0)) = ns.map g := by
  refine List.ext_getElem (by simp) fun i h1 h2 => ?_
  have h : i < ns.length := by simpa using h2
  simp [List.getD_eq_getElem?_getD, h]
theorem map_getDL {α : Type} (ns : List (List Int)) (g : List Int → α) : (List.range ns.length).map (fun i => g (ns.getD i [])) = ns.map g := by
  refine List.ext_getElem (by simp) fun i h1 h2 => ?_
  have h : i < ns.length := by simpa using h2
  simp [List.getD_eq_getElem?_getD, h]
theorem take_filter {ns : List Int} {p : Int → Bool} {i : Nat} (h : i < ns.length) : (ns.take (i + 1)).filter p = (ns.take i).filter p ++ if p (ns.getD i 0) = true then [ns.getD i 0] else [] := by
  have e : (ns[i]?).toList = [ns.getD i 0] := by rw [List.getD_eq_getElem?_getD, List.getElem?_eq_getElem h]; rfl
  rw [List.take_add_one, List.filter_append, e]
  congr 1
  by_cases c : p (ns.getD i 0) = true
  · rw [if_pos c, List.filter_cons_of_pos c, List.filter_nil]
  · rw [if_neg c, List.filter_cons_of_neg c, List.filter_nil]

/-! ### comprehensions that make lists of plain values -/
section
variable {K : PySem.W.Frag} {H H1 : Hp} {Q : VK} {a L : Addr} {xs : List V} {j n : Nat} {te : TE} {tt : TT} {vs : List Nat} {σ : L2.St} {i : Nat} {acc : List V} {S : List Addr}
def MadeV (H : Hp) (F : Nat → V) (_ : Addr) (i : Nat) (acc : List V) (H' : Hp) : Prop := Ch [] H H' ∧ acc = (List.range i).map F
theorem madeV_turn {F : Nat → V} (hL : H L = none) (ha : acc.length ≤ i) (hi : i < 10000000) (e : H1 L = some (.lst acc)) (m : MadeV H F L i acc H1)
    (ht : ∀ (Q : VK), (∀ H2, Ch [] H1 H2 → Q (F i) H2) → te σ H1 Q) : LcTurn (MadeV H F) tYes te L i σ H1 := by
  obtain ⟨c, rfl⟩ := m
  refine w_turnY (ht _ fun H2 c2 => w_lcput (c2.lst e) ha hi fun H5 c5 e5 => ?_)
  exact ⟨Ch.old (c.trans c2) hL c5, by rw [List.range_succ, List.map_append]; rfl⟩
theorem w_lcRV (F : Nat → V) (hw : ∀ x, wipe ((wipe σ vs).set j (some x)) vs = wipe σ vs) (hn : n ≤ 10000000)
    (ht : ∀ (i : Nat) H1 (Q : VK), i < n → Ch [] H H1 → (∀ H2, Ch [] H1 H2 → Q (F i) H2) → te ((wipe σ vs).set j (some (.int (i : Int)))) H1 Q)
    (k : ∀ l H', H l = none → Ch [] H H' → H' l = some (.lst ((List.range n).map F)) → Q (.ref l) H') : LcGo (Itr 0 n) (gName j) tYes te vs σ H Q :=
  w_lcR (MadeV H F) (fun _ _ _ c _ => ⟨c, rfl⟩) hw (fun L i acc H' hL hi ha e m => madeV_turn hL ha (by omega) e m fun Q q => ht i H' Q hi m.1 q) (fun L acc H' hL e m => k L H' hL m.1 (m.2 ▸ e))
theorem w_lcTV (F : Nat → V) (hs : SqT K H a xs) (hw : ∀ x, wipe ((wipe σ vs).set j (some x)) vs = wipe σ vs) (hn : xs.length ≤ 10000000)
    (ht : ∀ (i : Nat) x H1 (Q : VK), xs[i]? = some x → Ch [] H H1 → (∀ H2, Ch [] H1 H2 → Q (F i) H2) → te ((wipe σ vs).set j (some x)) H1 Q)
    (k : ∀ l H', H l = none → Ch [] H H' → H' l = some (.lst ((List.range xs.length).map F)) → Q (.ref l) H') : LcGo (Itt K a) (gName j) tYes te vs σ H Q :=
  w_lcT (MadeV H F) (fun _ _ _ c _ => ⟨c, rfl⟩) hw (fun L i acc H' hL e m => m.1.sqt hs) (fun L i x acc H' hL hx ha e m => madeV_turn hL ha (by have := (List.getElem?_eq_some_iff.mp hx).1; omega) e m fun Q q => ht i x H' Q hx m.1 q) (fun L acc H' hL e m => k L H' hL m.1 (m.2 ▸ e))
theorem w_lcLV (F : Nat → V) (hs : SqL K H a xs) (hw : ∀ x, wipe ((wipe σ vs).set j (some x)) vs = wipe σ vs) (hn : xs.length ≤ 10000000)
    (ht : ∀ (i : Nat) x H1 (Q : VK), xs[i]? = some x → Ch [] H H1 → (∀ H2, Ch [] H1 H2 → Q (F i) H2) → te ((wipe σ vs).set j (some x)) H1 Q)
    (k : ∀ l H', H l = none → Ch [] H H' → H' l = some (.lst ((List.range xs.length).map F)) → Q (.ref l) H') : LcGo (Itl K a) (gName j) tYes te vs σ H Q :=
  w_lcL (MadeV H F) (fun _ _ _ c _ => ⟨c, rfl⟩) hw (fun L i acc H' hL e m => m.1.sql hs) (fun L i x acc H' hL hx ha e m => madeV_turn hL ha (by have := (List.getElem?_eq_some_iff.mp hx).1; omega) e m fun Q q => ht i x H' Q hx m.1 q) (fun L acc H' hL e m => k L H' hL m.1 (m.2 ▸ e))
/-! ### comprehensions that keep some of ints -/
theorem filt_turn {ns : List Int} {g : Int → Bool} (hi : i < ns.length) (hb : ns.length ≤ 1000000) (hL : H L = none) (ha : acc.length ≤ i) (e : H1 L = some (.lst acc)) (m : Ch [] H H1 ∧ acc = ((ns.take i).filter g).map V.int)
    (ht : ∀ (QB : Bool → Hp → Prop), QB (g (ns.getD i 0)) H1 → tt σ H1 QB) (he : ∀ Q : VK, Q (.int (ns.getD i 0)) H1 → te σ H1 Q) :
    LcTurn (fun _ i acc H' => Ch [] H H' ∧ acc = ((ns.take i).filter g).map V.int) tt te L i σ H1 := by
  obtain ⟨c, rfl⟩ := m
  refine w_turn (ht _ ?_)
  by_cases hg : g (ns.getD i 0) = true
  · rw [if_pos hg]
    refine he _ (w_lcput e ha (by omega) fun H5 c5 e5 => ⟨Ch.old c hL c5, ?_⟩)
    rw [take_filter hi, if_pos hg, List.map_append]
    rfl
  · rw [if_neg hg]
    refine w_lcskip e ha ⟨c, ?_⟩
    rw [take_filter hi, if_neg hg, List.append_nil]
theorem w_lcTF {ns : List Int} (g : Int → Bool) (hs : SqT K H a (ns.map V.int)) (hw : ∀ x, wipe ((wipe σ vs).set j (some x)) vs = wipe σ vs) (hn : ns.length ≤ 1000000)
    (ht : ∀ (i : Nat) H1 (QB : Bool → Hp → Prop), i < ns.length → Ch [] H H1 → QB (g (ns.getD i 0)) H1 → tt ((wipe σ vs).set j (some (.int (ns.getD i 0)))) H1 QB)
    (he : ∀ (n : Int) H1 (Q : VK), Q (.int n) H1 → te ((wipe σ vs).set j (some (.int n))) H1 Q)
    (k : ∀ l H', H l = none → Ch [] H H' → H' l = some (.lst ((ns.filter g).map V.int)) → Q (.ref l) H') : LcGo (Itt K a) (gName j) tt te vs σ H Q :=
  w_lcT (fun _ i acc H' => Ch [] H H' ∧ acc = ((ns.take i).filter g).map V.int) (fun _ _ _ c _ => ⟨c, rfl⟩) hw (fun L i acc H' hL e m => m.1.sqt hs) (fun L i x acc H' hL hx ha e m => by
    obtain ⟨hi, rfl⟩ := int_at hx
    exact filt_turn hi hn hL ha e m (fun QB q => ht i H' QB hi m.1 q) (fun Q q => he _ H' Q q)) (fun L acc H' hL e m => by
    obtain ⟨c, rfl⟩ := m
    rw [List.length_map, List.take_length] at e
    exact k L H' hL c e)
theorem w_lcLF {ns : List Int} (g : Int → Bool) (hs : SqL K H a (ns.map V.int)) (hw : ∀ x, wipe ((wipe σ vs).set j (some x)) vs = wipe σ vs) (hn : ns.length ≤ 1000000)
    (ht : ∀ (i : Nat) H1 (QB : Bool → Hp → Prop), i < ns.length → Ch [] H H1 → QB (g (ns.getD i 0)) H1 → tt ((wipe σ vs).set j (some (.int (ns.getD i 0)))) H1 QB)
    (he : ∀ (n : Int) H1 (Q : VK), Q (.int n) H1 → te ((wipe σ vs).set j (some (.int n))) H1 Q)
    (k : ∀ l H', H l = none → Ch [] H H' → H' l = some (.lst ((ns.filter g).map V.int)) → Q (.ref l) H') : LcGo (Itl K a) (gName j) tt te vs σ H Q :=
  w_lcL (fun _ i acc H' => Ch [] H H' ∧ acc = ((ns.take i).filter g).map V.int) (fun _ _ _ c _ => ⟨c, rfl⟩) hw (fun L i acc H' hL e m => m.1.sql hs) (fun L i x acc H' hL hx ha e m => by
    obtain ⟨hi, rfl⟩ := int_at hx
    exact filt_turn hi hn hL ha e m (fun QB q => ht i H' QB hi m.1 q) (fun Q q => he _ H' Q q)) (fun L acc H' hL e m => by
    obtain ⟨c, rfl⟩ := m
    rw [List.length_map, List.take_length] at e
    exact k L H' hL c e)
theorem upto_get {n i : Nat} (h : i < n) : (upto n).getD i 0 = (i : Int) := by
  unfold upto
  rw [List.getD_eq_getElem?_getD, List.getElem?_map, List.getElem?_range h]
  rfl
theorem upto_len (n : Nat) : (upto n).length = n := by simp [upto]
theorem w_lcRF (g : Int → Bool) (hw : ∀ x, wipe ((wipe σ vs).set j (some x)) vs = wipe σ vs) (hn : n ≤ 1000000)
    (ht : ∀ (i : Nat) H1 (QB : Bool → Hp → Prop), i < n → Ch [] H H1 → QB (g (i : Int)) H1 → tt ((wipe σ vs).set j (some (.int (i : Int)))) H1 QB)
    (he : ∀ (n : Int) H1 (Q : VK), Q (.int n) H1 → te ((wipe σ vs).set j (some (.int n))) H1 Q)
    (k : ∀ l H', H l = none → Ch [] H H' → H' l = some (.lst (((upto n).filter g).map V.int)) → Q (.ref l) H') : LcGo (Itr 0 n) (gName j) tt te vs σ H Q :=
  w_lcR (fun _ i acc H' => Ch [] H H' ∧ acc = (((upto n).take i).filter g).map V.int) (fun _ _ _ c _ => ⟨c, rfl⟩) hw (fun L i acc H' hL hi ha e m => by
    have hl := upto_len n
    have hg := upto_get hi
    have := filt_turn (tt := tt) (te := te) (σ := (wipe σ vs).set j (some (.int (i : Int)))) (ns := upto n) (g := g) (i := i) (by omega) (by omega) hL ha e m (fun QB q => ht i H' QB hi m.1 (by rw [hg] at q; exact q)) (fun Q q => he _ H' Q (by rw [hg] at q; exact q))
    exact this) (fun L acc H' hL e m => by
    obtain ⟨c, rfl⟩ := m
    rw [List.take_of_length_le (by rw [upto_len]; exact Nat.le_refl _)] at e
    exact k L H' hL c e)
/-! ### lists of tuples: put behind, taken out in another order -/
theorem w_appLT {fs : List (List Int)} {l t : Addr} {ms : List Int} (h : LT K H l fs) (ht : SqT K H t (ms.map V.int)) (hz : fs.length < 1000000) (q : ∀ H', Ch [l] H H' → LT K H' l (fs ++ [ms]) → Q .non H') : rAppend (.ref l) [.ref t] H Q := by
  obtain ⟨bs, e, hb, rfl⟩ := h
  rw [List.length_map] at hz
  refine w_app e (by rw [sizeLine_eq, List.length_map]; omega) fun H' c e' => q H' c ⟨bs ++ [(t, ms)], by rw [e', List.map_append]; rfl, fun b hb' => ?_, by rw [List.map_append]; rfl⟩
  rcases List.mem_append.mp hb' with h | h
  · exact c.sqt (hb b h)
  · rw [List.mem_singleton.mp h]
    exact c.sqt ht
theorem w_tyLT {A : Prop} {fs : List (List Int)} {l : Addr} (h : LT K H l fs) (q : A) : tyV K "list" (.ref l) H ∧ A := by
  obtain ⟨bs, e, _⟩ := h
  exact w_tyL e q
theorem w_lenLT {fs : List (List Int)} {l : Addr} (h : LT K H l fs) (q : Q (.int fs.length) H) : rLenL K [.ref l] H Q := by
  obtain ⟨bs, e, _, rfl⟩ := h
  refine w_lenL (SqL.of e) ?_
  rw [List.length_map]
  rwa [List.length_map] at q
theorem perm_refs {α β : Type} {f : α → β} {l1 l2 : List β} (h : l1.Perm l2) : ∀ bs : List α, l2 = bs.map f → ∃ bs' : List α, bs'.Perm bs ∧ l1 = bs'.map f := by
  induction h with
  | nil =>
    intro bs e
    exact ⟨bs, .refl _, e⟩
  | @cons x l1 l2 _ ih =>
    intro bs e
    cases bs with
    | nil => cases e
    | cons b bs =>
      rw [List.map_cons, List.cons.injEq] at e
      obtain ⟨bs', p, e'⟩ := ih bs e.2
      exact ⟨b :: bs', p.cons b, by rw [List.map_cons, e.1, e']⟩
  | @swap x y l =>
    intro bs e
    match bs, e with
    | b :: c :: bs, e =>
      simp only [List.map_cons, List.cons.injEq] at e
      exact ⟨c :: b :: bs, List.Perm.swap _ _ _, by rw [List.map_cons, List.map_cons, e.1, e.2.1, e.2.2]⟩
  | trans _ _ ih1 ih2 =>
    intro bs e
    obtain ⟨b2, p2, e2⟩ := ih2 bs e
    obtain ⟨b1, p1, e1⟩ := ih1 b2 e2
    exact ⟨b1, p1.trans p2, e1⟩
end
/-- repr of None, or of what is read as d -/
def rReprV (K : PySem.W.Frag) : List V → Hp → VK → Prop := fun xs H Q => (xs = [.non] ∧ Q (.str "None") H) ∨ rReprD K xs H Q
theorem call_reprV {X : Cx} (hg : X.A.guards = some []) (hu : X.A.units + 64 < cLine) : CallR X (.builtin "repr") (rReprV X.K) := by
  intro pins s σ H vs us Q I r h
  rcases h with ⟨rfl, q⟩ | h
  · cases r with
    | cons r1 r2 =>
      cases r2
      cases r1
      exact PySem.P.repr_of_none ⟨.str "None", H, I.tok _, ⟨_, rfl⟩, q⟩
  · exact call_reprD hg hu pins s σ H vs us Q I r h
section
variable {K : PySem.W.Frag} {H H1 : Hp} {Q : VK} {a L : Addr} {j n : Nat} {te : TE} {tt : TT} {vs : List Nat} {σ : L2.St} {i : Nat} {acc : List V}
/-- a comprehension whose test may lay new things -/
theorem filt_turn2 {ns : List Int} {g : Int → Bool} (hi : i < ns.length) (hb : ns.length ≤ 1000000) (hL : H L = none) (ha : acc.length ≤ i) (e : H1 L = some (.lst acc)) (m : Ch [] H H1 ∧ acc = ((ns.take i).filter g).map V.int)
    (ht : ∀ (QB : Bool → Hp → Prop), (∀ H2, Ch [] H1 H2 → QB (g (ns.getD i 0)) H2) → tt σ H1 QB) (he : ∀ H2 (Q : VK), Q (.int (ns.getD i 0)) H2 → te σ H2 Q) :
    LcTurn (fun _ i acc H' => Ch [] H H' ∧ acc = ((ns.take i).filter g).map V.int) tt te L i σ H1 := by
  obtain ⟨c, rfl⟩ := m
  refine w_turn (ht _ fun H2 c2 => ?_)
  by_cases hg : g (ns.getD i 0) = true
  · rw [if_pos hg]
    refine he _ _ (w_lcput (c2.lst e) ha (by omega) fun H5 c5 e5 => ⟨Ch.old (c.trans c2) hL c5, ?_⟩)
    rw [take_filter hi, if_pos hg, List.map_append]
    rfl
  · rw [if_neg hg]
    refine w_lcskip (c2.lst e) ha ⟨c.trans c2, ?_⟩
    rw [take_filter hi, if_neg hg, List.append_nil]
theorem w_lcTF2 {ns : List Int} (g : Int → Bool) (hs : SqT K H a (ns.map V.int)) (hw : ∀ x, wipe ((wipe σ vs).set j (some x)) vs = wipe σ vs) (hn : ns.length ≤ 1000000)
    (ht : ∀ (i : Nat) H1 (QB : Bool → Hp → Prop), i < ns.length → Ch [] H H1 → (∀ H2, Ch [] H1 H2 → QB (g (ns.getD i 0)) H2) → tt ((wipe σ vs).set j (some (.int (ns.getD i 0)))) H1 QB)
    (he : ∀ (n : Int) H1 (Q : VK), Q (.int n) H1 → te ((wipe σ vs).set j (some (.int n))) H1 Q)
    (k : ∀ l H', H l = none → Ch [] H H' → H' l = some (.lst ((ns.filter g).map V.int)) → Q (.ref l) H') : LcGo (Itt K a) (gName j) tt te vs σ H Q :=
  w_lcT (fun _ i acc H' => Ch [] H H' ∧ acc = ((ns.take i).filter g).map V.int) (fun _ _ _ c _ => ⟨c, rfl⟩) hw (fun L i acc H' hL e m => m.1.sqt hs) (fun L i x acc H' hL hx ha e m => by
    obtain ⟨hi, rfl⟩ := int_at hx
    exact filt_turn2 hi hn hL ha e m (fun QB q => ht i H' QB hi m.1 q) (fun H2 Q q => he _ H2 Q q)) (fun L acc H' hL e m => by
    obtain ⟨c, rfl⟩ := m
    rw [List.length_map, List.take_length] at e
    exact k L H' hL c e)
/-- the text of a tuple of ints -/
theorem w_reprT {x : Addr} {f : List Int} (h : SqT K H x (f.map V.int)) (hl : f.length ≤ 1000) (hz : ∀ y ∈ f, y.natAbs < 10 ^ 70) (q : Q (.str (encT f).shown) H) : rReprV K [.ref x] H Q := by
  refine .inr ⟨x, _, 70, rfl, dp_tup h, Nat.le_trans (encT_depth f) (by decide), by decide, ints_small hz, ?_, q⟩
  have := encT_cost 70 f
  rw [sizeLine_eq]
  show cost 70 (encT f) ≤ _
  omega
theorem w_reprN (q : Q (.str "None") H) : rReprV K [.non] H Q := .inl ⟨rfl, q⟩
theorem w_isN (q : Q (.bl true) H) : rIsN .non .non H Q := ⟨rfl, q⟩
end
/-! ## sorted(t), t a tuple of ints -/
section
variable {prog : Program} {w : World} {A : Around} {E : Value → Shared → Prop} {s : Shared}
theorem collect_tup {l : Addr} {vs : List Value} {Q : List Value → Shared → Prop} (hl : s.heap.IsTuple l vs.toArray)
    (h : Q vs { s with heap := (s.heap.push (seqObj "list" #[] 0)).update s.heap.objs.size (Obj.mapSeq (· ++ vs.toArray)) }) (hsz : vs.length ≤ sizeLine) :
    wpAny (model prog w) A (collect (.ref l)) Q E s := by
  obtain ⟨o, ho, hc, n, hd⟩ := id hl
  unfold collect
  refine wpAny_bind (wpAny_runValue (codeAny_builtin entry_proto_collect' ?_))
  show wpAny _ _ (do again (.builtin "list.__iadd__" ⟨[← newList [], .ref l], []⟩)) _ _ s
  refine wpAny_bind (wpAny_newList (wpAny_pure ⟨Code.quiet_builtin _ (by decide +kernel), codeAny_builtin entry_list_iadd' ?_⟩))
  show wpAny _ _ (Builtin.List.listExtendWith (.ref s.heap.objs.size) (.ref l) (.ref s.heap.objs.size)) _ _ { s with heap := s.heap.push (seqObj "list" #[] 0) }
  unfold Builtin.List.listExtendWith
  have ho' : (s.heap.push (seqObj "list" #[] 0)).get? l = some o := Heap.get?_push_of_some _ ho
  refine wpAny_bind (wpAny_typeOf (T := "tuple") ⟨o, ho', hc⟩ ?_)
  have ht : (Value.type "tuple" == Value.type "tuple") = true := by rfl
  rw [if_pos (by rw [ht]; simp)]
  refine wpAny_bind (listItems_at ho' hd ?_)
  refine wpAny_bind (listItems_at (xs := #[]) (n := 0) (Heap.get?_push_size _ rfl) rfl ?_)
  rw [if_neg (by simp)]
  refine wpAny_bind (listUpdate_at (xs := #[]) (n := 0) (Heap.get?_push_size _ rfl) rfl ?_ (Nat.zero_le _) (by show (#[] ++ vs.toArray).size ≤ sizeLine + 1; simp only [Array.size_append, List.size_toArray, List.length_nil]; omega))
  refine wpAny_pure ?_
  show wpAny (model prog w) A (do
      let o ← load s.heap.objs.size
      match o.data with
      | .seq xs _ => pure xs.toList
      | _ => unsupported "internal:collect") Q E { s with heap := (s.heap.push (seqObj "list" #[] 0)).update s.heap.objs.size (Obj.mapSeq (· ++ vs.toArray)) }
  refine wpAny_bind (wpAny_load (get?_update_seq (Heap.get?_push_size _ rfl) _) ?_)
  show wpAny _ _ (pure ((#[] : Array Value) ++ vs.toArray).toList) Q E _
  rw [show ((#[] : Array Value) ++ vs.toArray).toList = vs by simp]
  exact wpAny_pure h
theorem sorted_valsT {l : Addr} {vs : List Value} {κ : PyProof.Rows.KeyKind} {Q : Value → Shared → Prop} (hl : s.heap.IsTuple l vs.toArray) (S : PySem.W.SortsAt prog w A.in1.in1 { s with heap := PySem.W.sortingHeap (PySem.W.copyHeap s.heap vs) (s.heap.objs.size + 1) vs } κ vs) (hL : vs.length ≤ sizeLine)
    (h : Q (.ref (s.heap.objs.size + 1)) { s with heap := sortedAll s.heap vs (PySem.W.sortVals κ false vs vs).toArray }) : wpAny (model prog w) A (call (.builtin "sorted") [.ref l]) Q E s := by
  refine Calls.call_function_entry kind_sorted plain_sorted entry_sorted (args_sorted1 _) ?_
  unfold Builtin.«sorted»
  refine wpAny_bind (m := checkCount "sorted" 1 1 _) (wpAny_pure ?_)
  refine wpAny_bind (collect_tup hl ?_ hL)
  refine wpAny_bind (wpAny_newList ?_ hL)
  have hsz : ((s.heap.push (seqObj "list" #[] 0)).update s.heap.objs.size (Obj.mapSeq (· ++ vs.toArray))).objs.size = s.heap.objs.size + 1 := by
    rw [Heap.size_update, size_push']
  show wpAny _ _ _ _ _ { s with heap := PySem.W.copyHeap s.heap vs }
  rw [hsz]
  refine wpAny_bind (wpAny_holding (wpAny_call_entry slot_list_sort ⟨_, PySem.W.copyHeap_at s.heap vs, rfl⟩ entry_list_sort (PySem.W.list_sort_vals (s := { s with heap := PySem.W.copyHeap s.heap vs }) (PySem.W.copyHeap_at s.heap vs) S hL ⟨.none, rfl, ?_⟩) (args_list_sort _)))
  exact wpAny_pure ⟨_, rfl, h⟩
end
def leI (a b : Int) : Bool := decide (a ≤ b)
def rSortTI (K : PySem.W.Frag) : List V → Hp → VK → Prop := fun vs H Q => ∃ (a : Addr) (ns : List Int), vs = [.ref a] ∧ SqT K H a (ns.map V.int) ∧ ns.length ≤ 1000000 ∧ New H (.lst ((ns.mergeSort leI).map V.int)) Q
section
variable {X : Cx}
theorem each_ints : ∀ {ns : List Int} {its : List Value}, Vals (ns.map V.int) its → PySem.W.EachIs (fun v (b : Int) => RelV (.int b) v) its ns
  | [], _, r => by
    cases r
    exact .nil
  | b :: bs, _, r => by
    cases r with
    | cons r1 r2 => exact .cons r1 (each_ints r2)
theorem ints_each : ∀ {ns : List Int} {its : List Value}, PySem.W.EachIs (fun v (b : Int) => RelV (.int b) v) its ns → Vals (ns.map V.int) its
  | _, _, .nil => .nil
  | _, _, .cons r1 r2 => .cons r1 (ints_each r2)
theorem ints_reads {h : Heap} : ∀ {ns : List Int} {its : List Value}, PySem.W.EachIs (fun v (b : Int) => RelV (.int b) v) its ns → PySem.W.EachIs (fun v (b : Int) => ∃ as, Reads h v (.int b) as) its ns
  | _, _, .nil => .nil
  | _, _, .cons ⟨t, e⟩ r2 => .cons ⟨[], e ▸ Reads.int _ _⟩ (ints_reads r2)
theorem cr_sortTI (hu : X.A.units + 64 < cLine) : CallR X (.builtin "sorted") (rSortTI X.K) := by
  intro pins s σ H vs us Q I r h
  obtain ⟨a, ns, rfl, hq, hz, q⟩ := h
  rw [Vals.ref1 r]
  obtain ⟨its, rv, hl, _⟩ := I.tuple hq
  have e := each_ints rv
  have hL : its.length ≤ sizeLine := by rw [e.length, sizeLine_eq]; omega
  have er' := ints_reads (h := PySem.W.sortingHeap (PySem.W.copyHeap s.heap its) (s.heap.objs.size + 1) its) e
  have hal : PySem.W.AllAlike (ns.map PyData.int) := by
    intro d hd d' hd'
    obtain ⟨b, _, rfl⟩ := List.mem_map.mp hd
    obtain ⟨b', _, rfl⟩ := List.mem_map.mp hd'
    rfl
  refine sorted_valsT hl (PySem.W.SortsAt.data (s := { s with heap := PySem.W.sortingHeap (PySem.W.copyHeap s.heap its) (s.heap.objs.size + 1) its })
    (PySem.W.each_map (R := fun v d => ∃ as, Reads (PySem.W.sortingHeap (PySem.W.copyHeap s.heap its) (s.heap.objs.size + 1) its) v d as) PyData.int er') hal (.inr fun d hd => ?_) (fun d hd => ?_)) hL ?_
  · obtain ⟨b, _, rfl⟩ := List.mem_map.mp hd
    exact ⟨(fun z => nomatch z), (fun xs z => nomatch z)⟩
  · obtain ⟨b, _, rfl⟩ := List.mem_map.mp hd
    have h2 : X.A.in1.in1.units = X.A.units + 2 := rfl
    have h3 : (PyData.int b).depth = 0 := by simp [PyData.depth]
    omega
  have eo := PySem.W.sortVals_data false e er' hal
  generalize PySem.W.sortVals (PySem.W.dataKind (PySem.W.sortingHeap (PySem.W.copyHeap s.heap its) (s.heap.objs.size + 1) its) (ns.map PyData.int)) false its its = out at eo ⊢
  have e2 : PySem.W.dataLe false PyData.int = leI := PySem.W.dataLe_int id
  rw [e2] at eo
  have hf : H (s.heap.objs.size + 1) = none := I.hok.fresh (Nat.le_succ _)
  refine ⟨.ref (s.heap.objs.size + 1), _, I.laid (t' := s.toks) (fun b o eb => sortedAll_old eb) (Nat.le_succ _) ?_, rfl, q _ hf⟩
  obtain ⟨c, hc⟩ := sortedAll_at s.heap its out.toArray
  exact ⟨by rw [List.length_map, List.length_mergeSort, sizeLine_eq]; omega, out, c, ints_each eo, hc⟩
variable {K : PySem.W.Frag} {H : Hp} {Q : VK} {a : Addr} {ns : List Int}
theorem w_sortTI (h : SqT K H a (ns.map V.int)) (hz : ns.length ≤ 1000000) (q : ∀ l H', H l = none → Ch [] H H' → H' l = some (.lst ((ns.mergeSort leI).map V.int)) → Q (.ref l) H') : rSortTI K [.ref a] H Q := ⟨a, ns, rfl, h, hz, w_new q⟩
end
/-! # Mirrors: what a reading computes, as a plain Lean function -/
abbrev Sg := L2.St

/-! ## heaps -/
def Sub (G H : Hp) : Prop := ∀ b o, G b = some o → H b = some o
def hide (H : Hp) (L : Addr) : Hp := fun b => if b = L then none else H b
section
variable {G G' G'' H H' H'' : Hp} {L L' b : Addr} {o u : HO}
theorem Sub.refl : Sub G G := fun _ _ h => h
theorem Sub.trans (a : Sub G G') (b : Sub G' G'') : Sub G G'' := fun x o h => b x o (a x o h)
theorem Sub.ne (a : Sub G H) (h : G b ≠ none) : H b ≠ none := by
  cases e : G b with
  | none => exact absurd e h
  | some o => rw [a b o e]; intro z; cases z
theorem Sub.no (a : Sub G H) (h : H b = none) : G b = none := by
  cases e : G b with
  | none => rfl
  | some o => rw [a b o e] at h; cases h
theorem hide_same : hide H L L = none := if_pos rfl
theorem hide_ne (h : b ≠ L) : hide H L b = H b := if_neg h
theorem hide_sub : Sub (hide H L) H := fun b o h => by
  by_cases e : b = L
  · subst e; rw [hide_same] at h; cases h
  · rwa [hide_ne e] at h
theorem hide_some (h : hide H L b = some o) : b ≠ L ∧ H b = some o := by
  by_cases e : b = L
  · subst e; rw [hide_same] at h; cases h
  · exact ⟨e, by rwa [hide_ne e] at h⟩
theorem Sub.hide (a : Sub H H') : Sub (hide H L) (hide H' L) := fun b o h => by
  obtain ⟨n, e⟩ := hide_some h
  rw [hide_ne n]; exact a b o e
theorem sub_hide (a : Sub G H) (h : G L = none) : Sub G (Ws.hide H L) := fun b o e => by
  have n : b ≠ L := fun z => by subst z; rw [h] at e; cases e
  rw [hide_ne n]; exact a b o e
theorem hide_upd : hide (upd H L o) L = hide H L := by
  funext b
  by_cases e : b = L
  · subst e; rw [hide_same, hide_same]
  · rw [hide_ne e, hide_ne e, upd_ne e]
theorem hide_comm : hide (hide H L) L' = hide (hide H L') L := by
  funext b
  unfold hide
  by_cases e : b = L <;> by_cases e' : b = L' <;> simp [e, e']
theorem hide_none (h : H L = none) : hide H L = H := by
  funext b
  by_cases e : b = L
  · subst e; rw [hide_same, h]
  · rw [hide_ne e]
theorem sub_upd (h : H L = none) : Sub H (upd H L o) := fun b u e => by
  rw [upd_ne (ne_of_none e h)]; exact e
theorem upd_sub (a : Sub G H) (h : H L = some o) : Sub (upd G L o) H := fun b u e => by
  by_cases n : b = L
  · subst n; rw [upd_same] at e; cases e; exact h
  · rw [upd_ne n] at e; exact a b u e
theorem upd_upd_sub (a : Sub G H) : Sub (upd G L o) (upd H L o) := fun b u e => by
  by_cases n : b = L
  · subst n; rw [upd_same] at e ⊢; exact e
  · rw [upd_ne n] at e ⊢; exact a b u e
theorem upd_some (h : upd G L o b ≠ none) : b = L ∨ G b ≠ none := by
  by_cases n : b = L
  · exact .inl n
  · rw [upd_ne n] at h; exact .inr h
end
/-- all tuples are frozen -/
def Tps (G H : Hp) : Prop := ∀ b xs, H b = some (.tup xs) → G b = some (.tup xs)
/-- a pure step: only new objects, of which some are frozen -/
structure Stp (G H G' H' : Hp) : Prop where
  g : Sub G G'
  h : Sub H H'
  i : Sub G' H'
  n : ∀ b, H b ≠ none → G' b ≠ none → G b ≠ none
  t : Tps G H → Tps G' H'
theorem Stp.refl {G H : Hp} (i : Sub G H) : Stp G H G H := ⟨.refl, .refl, i, fun _ _ h => h, id⟩
theorem Stp.trans {G H G1 H1 G2 H2 : Hp} (a : Stp G H G1 H1) (b : Stp G1 H1 G2 H2) : Stp G H G2 H2 :=
  ⟨a.g.trans b.g, a.h.trans b.h, b.i, fun x h1 h2 => a.n x h1 (b.n x (a.h.ne h1) h2), fun z => b.t (a.t z)⟩
/-- a new object is laid and frozen -/
theorem Stp.new {G H : Hp} {p : Addr} {o : HO} (i : Sub G H) (h : H p = none) : Stp G H (upd G p o) (upd H p o) :=
  ⟨sub_upd (i.no h), sub_upd h, upd_upd_sub i, fun b h1 h2 => (upd_some h2).elim (fun e => absurd h (e ▸ h1)) id, fun z b xs hb => by
    by_cases e : b = p
    · subst e; rw [upd_same] at hb ⊢; exact hb
    · rw [upd_ne e] at hb ⊢; exact z b xs hb⟩
/-- a new object is laid -/
theorem Tps.put {G H : Hp} {p : Addr} {o : HO} (ho : ∀ xs, o ≠ .tup xs) (z : Tps G H) : Tps G (upd H p o) := fun b xs hb => by
  by_cases e : b = p
  · subst e; rw [upd_same] at hb; cases hb; exact absurd rfl (ho xs)
  · rw [upd_ne e] at hb; exact z b xs hb
theorem Stp.own {G H : Hp} {p : Addr} {o : HO} (i : Sub G H) (h : H p = none) (ho : ∀ xs, o ≠ .tup xs := by intro _ h; cases h) : Stp G H G (upd H p o) :=
  ⟨.refl, sub_upd h, i.trans (sub_upd h), fun _ _ h => h, fun z => z.put ho⟩

/-- the frame of a def: what was frozen, what stood as it began, what it may change -/
structure Frm where
  G0 : Hp
  H0 : Hp
  ws : List Addr
  X : Hp := fun _ => none
  Y : Hp := fun _ => none
/-- one object more is to stay as it is -/
def Frm.lock (F : Frm) (D : Addr) (o : HO) : Frm := { F with X := upd F.X D o }
/-- a dict that is walked -/
def Frm.lockY (F : Frm) (D : Addr) (o : HO) : Frm := { F with Y := upd F.Y D o }
structure IV (F : Frm) (G H : Hp) : Prop where
  gh : Sub G H
  g0 : Sub F.G0 G
  new : ∀ b, F.H0 b ≠ none → G b ≠ none → F.G0 b ≠ none
  fr : ∀ b o, b ∉ F.ws → F.H0 b = some o → H b = some o
  al : ∀ b, F.H0 b ≠ none → H b ≠ none
  xs : Sub F.X H
  xg : ∀ b, F.X b ≠ none → G b = none
  ys : Sub F.Y H
  yg : ∀ b, F.Y b ≠ none → G b = none
  tp : Tps G H
theorem IV.step {F : Frm} {G H G' H' : Hp} (i : IV F G H) (s : Stp G H G' H') : IV F G' H' :=
  ⟨s.i, i.g0.trans s.g, fun b h1 h2 => i.new b h1 (s.n b (i.al b h1) h2), fun b o h1 h2 => s.h b o (i.fr b o h1 h2), fun b h => s.h.ne (i.al b h), i.xs.trans s.h, fun b h => by
    cases z : G' b with
    | none => rfl
    | some o => exact absurd (i.xg b h) (s.n b (i.xs.ne h) (by rw [z]; intro z; cases z)), i.ys.trans s.h, fun b h => by
    cases z : G' b with
    | none => rfl
    | some o => exact absurd (i.yg b h) (s.n b (i.ys.ne h) (by rw [z]; intro z; cases z)), s.t i.tp⟩
theorem IV.lock {F : Frm} {G H : Hp} {D : Addr} {o : HO} (i : IV F G H) (h : H D = some o) (g : G D = none) : IV (F.lock D o) G H :=
  ⟨i.gh, i.g0, i.new, i.fr, i.al, upd_sub i.xs h, fun b hb => (upd_some hb).elim (fun e => e ▸ g) (i.xg b), i.ys, i.yg, i.tp⟩
theorem IV.unlock {F : Frm} {G H : Hp} {D : Addr} {o : HO} (i : IV (F.lock D o) G H) (h : F.X D = none) : IV F G H ∧ H D = some o ∧ G D = none :=
  ⟨⟨i.gh, i.g0, i.new, i.fr, i.al, (sub_upd h).trans i.xs, fun b hb => i.xg b ((sub_upd h).ne hb), i.ys, i.yg, i.tp⟩, i.xs D o upd_same, i.xg D (by show upd F.X D o D ≠ none; rw [upd_same]; intro z; cases z)⟩
def ownN : Frm → Addr → Prop := fun F L => F.H0 L = none ∧ F.X L = none ∧ F.Y L = none
def ownI (k : Nat) : Frm → Addr → Prop := fun F L => F.ws[k]? = some L ∧ F.X L = none ∧ F.Y L = none

/-! ## representations -/
inductive A2 {α β : Type} (R : α → β → Prop) : List α → List β → Prop
  | nil : A2 R [] []
  | cons {a b as bs} (h : R a b) (t : A2 R as bs) : A2 R (a :: as) (b :: bs)
section
variable {α β γ : Type} {R S : α → β → Prop} {as as' : List α} {bs bs' : List β}
theorem A2.mono (h : A2 R as bs) (k : ∀ a b, R a b → S a b) : A2 S as bs := by
  induction h with
  | nil => exact .nil
  | cons h _ ih => exact .cons (k _ _ h) ih
theorem A2.length (h : A2 R as bs) : as.length = bs.length := by
  induction h with
  | nil => rfl
  | cons _ _ ih => simp [ih]
theorem A2.app (h : A2 R as bs) (h' : A2 R as' bs') : A2 R (as ++ as') (bs ++ bs') := by
  induction h with
  | nil => exact h'
  | cons h _ ih => exact .cons h ih
theorem A2.get {i : Nat} {b : β} (h : A2 R as bs) (e : bs[i]? = some b) : ∃ a, as[i]? = some a ∧ R a b := by
  induction h generalizing i with
  | nil => simp at e
  | cons h _ ih =>
    cases i with
    | zero => simp at e; subst e; exact ⟨_, rfl, h⟩
    | succ i => simpa using ih (by simpa using e)
theorem A2.getL {i : Nat} {a : α} (h : A2 R as bs) (e : as[i]? = some a) : ∃ b, bs[i]? = some b ∧ R a b := by
  induction h generalizing i with
  | nil => simp at e
  | cons h _ ih =>
    cases i with
    | zero => simp at e; subst e; exact ⟨_, rfl, h⟩
    | succ i => simpa using ih (by simpa using e)
theorem A2.take {n : Nat} (h : A2 R as bs) : A2 R (as.take n) (bs.take n) := by
  induction h generalizing n with
  | nil => simp; exact .nil
  | cons h _ ih =>
    cases n with
    | zero => exact .nil
    | succ n => exact .cons h ih
theorem A2.drop {n : Nat} (h : A2 R as bs) : A2 R (as.drop n) (bs.drop n) := by
  induction h generalizing n with
  | nil => simp; exact .nil
  | cons h t ih =>
    cases n with
    | zero => exact .cons h t
    | succ n => exact ih
theorem A2.set {n : Nat} {a : α} {b : β} (h : A2 R as bs) (r : R a b) : A2 R (as.set n a) (bs.set n b) := by
  induction h generalizing n with
  | nil => exact .nil
  | cons h t ih =>
    cases n with
    | zero => exact .cons r t
    | succ n => exact .cons h ih
theorem A2.rev (h : A2 R as bs) : A2 R as.reverse bs.reverse := by
  induction h with
  | nil => exact .nil
  | cons h _ ih => rw [List.reverse_cons, List.reverse_cons]; exact ih.app (.cons h .nil)
theorem A2.ofMap {f : β → α} (h : ∀ b ∈ bs, R (f b) b) : A2 R (bs.map f) bs := by
  induction bs with
  | nil => exact .nil
  | cons b bs ih => exact .cons (h b List.mem_cons_self) (ih fun x hx => h x (List.mem_cons_of_mem _ hx))
theorem A2.eqMap {f : β → α} (h : A2 (fun a b => a = f b) as bs) : as = bs.map f := by
  induction h with
  | nil => rfl
  | cons h _ ih => rw [h, ih]; rfl
theorem A2.eraseIdx {n : Nat} (h : A2 R as bs) : A2 R (as.eraseIdx n) (bs.eraseIdx n) := by
  induction h generalizing n with
  | nil => exact .nil
  | cons h t ih =>
    cases n with
    | zero => exact t
    | succ n => exact .cons h ih
theorem A2.dropLast (h : A2 R as bs) : A2 R as.dropLast bs.dropLast := by
  rw [List.dropLast_eq_take, List.dropLast_eq_take, h.length]; exact h.take
end

/-- frozen data: ν is what it stands for on the machine's side -/
structure GR (ν α : Type) where
  rel : PySem.W.Frag → Hp → ν → α → Prop
  mono : ∀ {K G G' v a}, Sub G G' → rel K G v a → rel K G' v a
abbrev Rep := GR V
/-- what stands at an address -/
abbrev ORep := GR HO
def rI : Rep Int := ⟨fun _ _ v i => v = .int i, fun _ h => h⟩
def rB : Rep Bool := ⟨fun _ _ v b => v = .bl b, fun _ h => h⟩
def rS : Rep Str := ⟨fun _ _ v z => v = .str z, fun _ h => h⟩
def rN : Rep Unit := ⟨fun _ _ v _ => v = .non, fun _ h => h⟩
/-- whatever it is -/
def rAnyR : Rep Unit := ⟨fun _ _ _ _ => True, fun _ h => h⟩
/-- None or a thing -/
def rO {α : Type} (r : Rep α) : Rep (Option α) := ⟨fun K G v a => match a with | none => v = .non | some x => v ≠ .non ∧ r.rel K G v x, fun {K G G' v a} s h => by
  cases a with
  | none => exact h
  | some x => exact ⟨h.1, r.mono s h.2⟩⟩
/-- a frozen object -/
def rz {α : Type} (q : ORep α) : Rep α := ⟨fun K G v a => ∃ L ho, v = .ref L ∧ G L = some ho ∧ q.rel K G ho a, fun s ⟨L, ho, h1, h2, h3⟩ => ⟨L, ho, h1, s _ _ h2, q.mono s h3⟩⟩
def oL {α : Type} (r : Rep α) : ORep (List α) := ⟨fun K G ho xs => ∃ vs, ho = .lst vs ∧ A2 (r.rel K G) vs xs, fun s ⟨vs, h1, h2⟩ => ⟨vs, h1, h2.mono fun _ _ => r.mono s⟩⟩
def oT {α : Type} (r : Rep α) : ORep (List α) := ⟨fun K G ho xs => ∃ vs, ho = .tup vs ∧ A2 (r.rel K G) vs xs, fun s ⟨vs, h1, h2⟩ => ⟨vs, h1, h2.mono fun _ _ => r.mono s⟩⟩
abbrev rL {α : Type} (r : Rep α) : Rep (List α) := rz (oL r)
abbrev rT {α : Type} (r : Rep α) : Rep (List α) := rz (oT r)
/-- a tuple, a list of two things -/
def oT2 {α β : Type} (r : Rep α) (s : Rep β) : ORep (α × β) := ⟨fun K G ho p => ∃ v w, ho = .tup [v, w] ∧ r.rel K G v p.1 ∧ s.rel K G w p.2, fun u ⟨v, w, h1, h2, h3⟩ => ⟨v, w, h1, r.mono u h2, s.mono u h3⟩⟩
def oL2 {α β : Type} (r : Rep α) (s : Rep β) : ORep (α × β) := ⟨fun K G ho p => ∃ v w, ho = .lst [v, w] ∧ r.rel K G v p.1 ∧ s.rel K G w p.2, fun u ⟨v, w, h1, h2, h3⟩ => ⟨v, w, h1, r.mono u h2, s.mono u h3⟩⟩
def oT3 {α β γ : Type} (r : Rep α) (s : Rep β) (t : Rep γ) : ORep (α × β × γ) := ⟨fun K G ho p => ∃ v w x, ho = .tup [v, w, x] ∧ r.rel K G v p.1 ∧ s.rel K G w p.2.1 ∧ t.rel K G x p.2.2, fun u ⟨v, w, x, h1, h2, h3, h4⟩ => ⟨v, w, x, h1, r.mono u h2, s.mono u h3, t.mono u h4⟩⟩
def oL3 {α β γ : Type} (r : Rep α) (s : Rep β) (t : Rep γ) : ORep (α × β × γ) := ⟨fun K G ho p => ∃ v w x, ho = .lst [v, w, x] ∧ r.rel K G v p.1 ∧ s.rel K G w p.2.1 ∧ t.rel K G x p.2.2, fun u ⟨v, w, x, h1, h2, h3, h4⟩ => ⟨v, w, x, h1, r.mono u h2, s.mono u h3, t.mono u h4⟩⟩
abbrev rT2 {α β : Type} (r : Rep α) (s : Rep β) : Rep (α × β) := rz (oT2 r s)
abbrev rL2 {α β : Type} (r : Rep α) (s : Rep β) : Rep (α × β) := rz (oL2 r s)
abbrev rT3 {α β γ : Type} (r : Rep α) (s : Rep β) (t : Rep γ) : Rep (α × β × γ) := rz (oT3 r s t)
abbrev rL3 {α β γ : Type} (r : Rep α) (s : Rep β) (t : Rep γ) : Rep (α × β × γ) := rz (oL3 r s t)
/-- the script: a list that is read and never written -/
def rScr : Rep (List Int) := ⟨fun K G v xs => ∃ a, v = .ref a ∧ Fz K G a (xs.map V.int), fun {K G G' v a} s ⟨p, h1, h2⟩ => ⟨p, h1, by
  rcases h2 with ⟨o, h⟩ | h
  · exact .inl ⟨o, s _ _ h⟩
  · exact .inr h⟩⟩
def bR : GR Bool Bool := ⟨fun _ _ b a => b = a, fun _ h => h⟩
def ioR : GR (Option Int) (Option Int) := ⟨fun _ _ b a => b = a, fun _ h => h⟩

/-! ## what comes of it -/
structure Xc where
  name : Str
  fld : Option (Str × Int) := none
inductive Rs (ε α : Type) where
  | ok (a : α) (e : ε) | ex (c : Xc) (e : ε) | bad
inductive So (ε ρ : Type) where
  | nx (e : ε) | rt (a : ρ) (e : ε) | bk (e : ε) | ct (e : ε) | ex (c : Xc) (e : ε) | bad
def Rs.bind {ε α β : Type} (x : Rs ε α) (f : α → ε → Rs ε β) : Rs ε β := match x with
  | .ok a e => f a e | .ex c e => .ex c e | .bad => .bad
def Rs.of {ε α : Type} (o : Option α) (e : ε) : Rs ε α := match o with
  | some a => .ok a e | none => .bad
def Rs.so {ε α ρ : Type} (x : Rs ε α) (f : α → ε → So ε ρ) : So ε ρ := match x with
  | .ok a e => f a e | .ex c e => .ex c e | .bad => .bad
section
variable {ε α β ρ : Type} {a : α} {e : ε} {c : Xc} {f : α → ε → Rs ε β} {g : α → ε → So ε ρ}
@[simp] theorem Rs.bind_ok : (Rs.ok a e).bind f = f a e := rfl
@[simp] theorem Rs.bind_ex : (Rs.ex c e : Rs ε α).bind f = .ex c e := rfl
@[simp] theorem Rs.bind_bad : (Rs.bad : Rs ε α).bind f = .bad := rfl
@[simp] theorem Rs.so_ok : (Rs.ok a e).so g = g a e := rfl
@[simp] theorem Rs.so_ex : (Rs.ex c e : Rs ε α).so g = .ex c e := rfl
@[simp] theorem Rs.so_bad : (Rs.bad : Rs ε α).so g = .bad := rfl
@[simp] theorem Rs.of_some : Rs.of (some a) e = .ok a e := rfl
@[simp] theorem Rs.of_none : Rs.of (none : Option α) e = .bad := rfl
end

/-- what a def runs in: its written part, what is wanted of what is raised, the classes -/
structure Mx where
  K : PySem.W.Frag
  E : XK
  cx : Str → Addr
def xr (M : Mx) (G : Hp) (c : Xc) (cls : Value) (d : Option Addr) : Prop := cls = .ref (M.cx c.name) ∧ match c.fld with
  | none => d = none
  | some (f, i) => ∃ dd, d = some dd ∧ G dd = some (.xd [(f, .int i)])

/-- the names of a def -/
structure ERep (ε : Type) where
  rel : PySem.W.Frag → Frm → Hp → Hp → Sg → ε → Prop
  mono : ∀ {K F G G' H H' σ e}, Sub G G' → Sub H H' → (∀ b, H b ≠ none → G' b ≠ none → G b ≠ none) → rel K F G H σ e → rel K F G' H' σ e
  lock : ∀ {K F G H σ e D o}, rel K F G (hide H D) σ e → rel K (F.lock D o) G H σ e
  unlock : ∀ {K F G H σ e D o}, rel K (F.lock D o) G H σ e → rel K F G (hide H D) σ e

/-- how a result is held: frozen, or a new object of one's own; the last heap: without it -/
structure RS (ν α : Type) where
  rel : PySem.W.Frag → Frm → Hp → Hp → ν → α → Hp → Prop
def fz {ν α : Type} (r : GR ν α) : RS ν α := ⟨fun K _ G H v a H1 => r.rel K G v a ∧ H1 = H⟩
def fs {α : Type} (q : ORep α) : RS V α := ⟨fun K F G H v a H1 => ∃ L ho, v = .ref L ∧ H L = some ho ∧ G L = none ∧ ownN F L ∧ q.rel K G ho a ∧ H1 = hide H L⟩

section
variable {ν ν' α β γ ε ρ : Type}
def Post (M : Mx) (R : ERep ε) (F : Frm) (G : Hp) (σ : Sg) (rs : RS ν α) (Q : ν → Hp → Prop) : Rs ε α → Prop
  | .ok a e' => ∀ v G' H' H1, IV F G' H' → Sub G G' → rs.rel M.K F G' H' v a H1 → R.rel M.K F G' H1 σ e' → Q v H'
  | .ex c e' => ∀ cls d G' H', IV F G' H' → Sub G G' → R.rel M.K F G' H' σ e' → xr M G' c cls d → M.E cls d H'
  | .bad => False
/-- the reading t computes m -/
def EX (M : Mx) (R : ERep ε) (t : Sg → Hp → (ν → Hp → Prop) → Prop) (rs : RS ν α) (m : ε → Rs ε α) : Prop :=
  ∀ F G H σ e, IV F G H → R.rel M.K F G H σ e → ∀ Q, Post M R F G σ rs Q (m e) → t σ H Q
variable {M : Mx} {R : ERep ε} {F : Frm} {G G1 H : Hp} {σ : Sg} {Q : ν → Hp → Prop} {Q' : ν' → Hp → Prop}
theorem Post.up {rs : RS ν α} {x : Rs ε α} (h : Post M R F G σ rs Q x) (s : Sub G G1) : Post M R F G1 σ rs Q x := by
  cases x with
  | ok a e => exact fun v G' H' H1 i z => h v G' H' H1 i (s.trans z)
  | ex c e => exact fun cls d G' H' i z => h cls d G' H' i (s.trans z)
  | bad => exact h
theorem Post.bind {rr : RS ν α} {rs : RS ν' β} {x : Rs ε α} {f : α → ε → Rs ε β} (h : Post M R F G σ rs Q' (x.bind f)) (hz : ∀ K F G H v a H1, rr.rel K F G H v a H1 → H1 = H)
    (k : ∀ v a e1 G1 H1, IV F G1 H1 → Sub G G1 → R.rel M.K F G1 H1 σ e1 → rr.rel M.K F G1 H1 v a H1 → Post M R F G1 σ rs Q' (f a e1) → Q v H1) : Post M R F G σ rr Q x := by
  cases x with
  | ok a e =>
    rintro v G' H' H1 i s hr hR
    obtain rfl := hz _ _ _ _ _ _ _ hr
    exact k v a e G' _ i s hR hr (Post.up h s)
  | ex c e => exact h
  | bad => exact h
theorem Post.okI {r : GR ν α} {a : α} {v : ν} {e : ε} (i : IV F G H) (hR : R.rel M.K F G H σ e) (hr : r.rel M.K G v a) (h : Post M R F G σ (fz r) Q (.ok a e)) : Q v H := h v G H H i .refl ⟨hr, rfl⟩ hR

/-- what a rule by values may ask of a value, as the heap stands -/
abbrev IR (ν α : Type) := PySem.W.Frag → Hp → Hp → ν → α → Prop
def ir {ν α : Type} (r : GR ν α) : IR ν α := fun K G _ v a => r.rel K G v a
/-- an object that is read as it stands -/
def rd {α : Type} (q : ORep α) : IR V α := fun K G H v a => ∃ L ho, v = .ref L ∧ H L = some ho ∧ q.rel K G ho a
def is {ν α : Type} (i : IR ν α) : RS ν α := ⟨fun K _ G H v a H1 => i K G H v a ∧ H1 = H⟩
/-- frozen, it may be read -/
def Cv {ν α : Type} (r : GR ν α) (i : IR ν α) : Prop := ∀ K G H v a, Sub G H → r.rel K G v a → i K G H v a
theorem Cv.id {ν α : Type} {r : GR ν α} : Cv r (ir r) := fun _ _ _ _ _ _ h => h
theorem Cv.ob {α : Type} {q : ORep α} : Cv (rz q) (rd q) := fun _ _ _ _ _ s ⟨L, ho, h1, h2, h3⟩ => ⟨L, ho, h1, s _ _ h2, h3⟩
/-- a rule by values: what it gives is frozen -/
def VR (K : PySem.W.Frag) (T : ν → Hp → (ν' → Hp → Prop) → Prop) (r : IR ν α) (r' : GR ν' β) (g : α → Option β) : Prop :=
  ∀ G H v a b Q, Sub G H → r K G H v a → g a = some b → (∀ v' G' H', Stp G H G' H' → r'.rel K G' v' b → Q v' H') → T v H Q
def VR2 {ν1 ν2 : Type} (K : PySem.W.Frag) (T : ν1 → ν2 → Hp → (ν' → Hp → Prop) → Prop) (r : IR ν1 α) (s : IR ν2 β) (r' : GR ν' γ) (g : α → β → Option γ) : Prop :=
  ∀ G H v w a b c Q, Sub G H → r K G H v a → s K G H w b → g a b = some c → (∀ v' G' H', Stp G H G' H' → r'.rel K G' v' c → Q v' H') → T v w H Q
/-- a rule by values: what it gives is new -/
def VF (K : PySem.W.Frag) (T : ν → Hp → (V → Hp → Prop) → Prop) (r : IR ν α) (q : ORep β) (g : α → Option β) : Prop :=
  ∀ G H v a b Q, Sub G H → r K G H v a → g a = some b → (∀ L ho G' H', Stp G H G' H' → H L = none → G' L = none → H' L = some ho → q.rel K G' ho b → Q (.ref L) H') → T v H Q
def VF2 {ν1 ν2 : Type} (K : PySem.W.Frag) (T : ν1 → ν2 → Hp → (V → Hp → Prop) → Prop) (r : IR ν1 α) (s : IR ν2 β) (q : ORep γ) (g : α → β → Option γ) : Prop :=
  ∀ G H v w a b c Q, Sub G H → r K G H v a → s K G H w b → g a b = some c → (∀ L ho G' H', Stp G H G' H' → H L = none → G' L = none → H' L = some ho → q.rel K G' ho c → Q (.ref L) H') → T v w H Q
/-- the end of a rule by values -/
theorem Post.fin {r' : GR ν' β} {b : β} {e : ε} {Q : ν' → Hp → Prop} (i : IV F G H) (hR : R.rel M.K F G H σ e) (h : Post M R F G σ (fz r') Q (.ok b e)) : ∀ v' G' H', Stp G H G' H' → r'.rel M.K G' v' b → Q v' H' :=
  fun v' G' H' st hr => h v' G' H' H' (i.step st) st.g ⟨hr, rfl⟩ (R.mono st.g st.h st.n hR)
theorem Post.finF {q : ORep β} {b : β} {e : ε} {Q : V → Hp → Prop} (i : IV F G H) (hR : R.rel M.K F G H σ e) (h : Post M R F G σ (fs q) Q (.ok b e)) :
    ∀ L ho G' H', Stp G H G' H' → H L = none → G' L = none → H' L = some ho → q.rel M.K G' ho b → Q (.ref L) H' := fun L ho G' H' st hl gl hl' hq => by
  refine h (.ref L) G' H' (hide H' L) (i.step st) st.g ⟨L, ho, rfl, hl', gl, ⟨?_, i.xs.no hl, i.ys.no hl⟩, hq, rfl⟩ (R.mono st.g (sub_hide st.h hl) st.n hR)
  cases z : F.H0 L with
  | none => rfl
  | some o => exact absurd hl (i.al L (by rw [z]; intro z; cases z))
def mUn (g : α → Option β) (m : ε → Rs ε α) : ε → Rs ε β := fun e => (m e).bind fun a e1 => .of (g a) e1
def mOp (g : α → β → Option γ) (m : ε → Rs ε α) (n : ε → Rs ε β) : ε → Rs ε γ := fun e => (m e).bind fun a e1 => (n e1).bind fun b e2 => .of (g a b) e2
theorem of_some {o : Option β} {e : ε} {rs : RS ν β} (h : Post M R F G σ rs Q (.of o e)) : ∃ b, o = some b ∧ Post M R F G σ rs Q (.ok b e) := by
  cases o with
  | none => exact h.elim
  | some b => exact ⟨b, rfl, h⟩
theorem x_un {t : Sg → Hp → (ν → Hp → Prop) → Prop} {T : ν → Hp → (ν' → Hp → Prop) → Prop} {r : IR ν α} {r' : GR ν' β} {g : α → Option β} {m : ε → Rs ε α} (vr : VR M.K T r r' g) (h : EX M R t (is r) m) :
    EX M R (fun σ H Q => t σ H fun x H1 => T x H1 Q) (fz r') (mUn g m) := fun F G H σ e i hR Q p =>
  h F G H σ e i hR _ (p.bind (fun _ _ _ _ _ _ _ z => z.2) fun v a e1 G1 H1 i1 s1 R1 r1 p1 => by
    obtain ⟨b, hb, p2⟩ := of_some p1
    exact vr G1 H1 v a b Q i1.gh r1.1 hb (p2.fin i1 R1))
theorem x_unF {t : Sg → Hp → (ν → Hp → Prop) → Prop} {T : ν → Hp → (V → Hp → Prop) → Prop} {r : IR ν α} {q : ORep β} {g : α → Option β} {m : ε → Rs ε α} (vr : VF M.K T r q g) (h : EX M R t (is r) m) :
    EX M R (fun σ H Q => t σ H fun x H1 => T x H1 Q) (fs q) (mUn g m) := fun F G H σ e i hR Q p =>
  h F G H σ e i hR _ (p.bind (fun _ _ _ _ _ _ _ z => z.2) fun v a e1 G1 H1 i1 s1 R1 r1 p1 => by
    obtain ⟨b, hb, p2⟩ := of_some p1
    exact vr G1 H1 v a b Q i1.gh r1.1 hb (p2.finF i1 R1))
theorem x_op {ν1 ν2 : Type} {t : Sg → Hp → (ν1 → Hp → Prop) → Prop} {u : Sg → Hp → (ν2 → Hp → Prop) → Prop} {T : ν1 → ν2 → Hp → (ν' → Hp → Prop) → Prop} {r : GR ν1 α} {i1' : IR ν1 α} {s : IR ν2 β} {r' : GR ν' γ} {g : α → β → Option γ} {m : ε → Rs ε α} {n : ε → Rs ε β}
    (vr : VR2 M.K T i1' s r' g) (cv : Cv r i1') (h : EX M R t (fz r) m) (k : EX M R u (is s) n) : EX M R (fun σ H Q => t σ H fun x H1 => u σ H1 fun y H2 => T x y H2 Q) (fz r') (mOp g m n) := fun F G H σ e i hR Q p =>
  h F G H σ e i hR _ (p.bind (fun _ _ _ _ _ _ _ z => z.2) fun v a e1 G1 H1 i1 s1 R1 r1 p1 => k F G1 H1 σ e1 i1 R1 _ (p1.bind (fun _ _ _ _ _ _ _ z => z.2) fun w b e2 G2 H2 i2 s2 R2 r2 p2 => by
    obtain ⟨c, hc, p3⟩ := of_some p2
    exact vr G2 H2 v w a b c Q i2.gh (cv _ _ _ _ _ i2.gh (r.mono s2 r1.1)) r2.1 hc (p3.fin i2 R2)))
theorem x_opF {ν1 ν2 : Type} {t : Sg → Hp → (ν1 → Hp → Prop) → Prop} {u : Sg → Hp → (ν2 → Hp → Prop) → Prop} {T : ν1 → ν2 → Hp → (V → Hp → Prop) → Prop} {r : GR ν1 α} {i1' : IR ν1 α} {s : IR ν2 β} {q : ORep γ} {g : α → β → Option γ} {m : ε → Rs ε α} {n : ε → Rs ε β}
    (vr : VF2 M.K T i1' s q g) (cv : Cv r i1') (h : EX M R t (fz r) m) (k : EX M R u (is s) n) : EX M R (fun σ H Q => t σ H fun x H1 => u σ H1 fun y H2 => T x y H2 Q) (fs q) (mOp g m n) := fun F G H σ e i hR Q p =>
  h F G H σ e i hR _ (p.bind (fun _ _ _ _ _ _ _ z => z.2) fun v a e1 G1 H1 i1 s1 R1 r1 p1 => k F G1 H1 σ e1 i1 R1 _ (p1.bind (fun _ _ _ _ _ _ _ z => z.2) fun w b e2 G2 H2 i2 s2 R2 r2 p2 => by
    obtain ⟨c, hc, p3⟩ := of_some p2
    exact vr G2 H2 v w a b c Q i2.gh (cv _ _ _ _ _ i2.gh (r.mono s2 r1.1)) r2.1 hc (p3.finF i2 R2)))
/-- what is frozen, read as it stands -/
theorem x_is {t : Sg → Hp → (ν → Hp → Prop) → Prop} {r : GR ν α} {i' : IR ν α} {m : ε → Rs ε α} (cv : Cv r i') (h : EX M R t (fz r) m) : EX M R t (is i') m := fun F G H σ e i hR Q p => by
  refine h F G H σ e i hR Q ?_
  revert p
  cases m e with
  | ok a e' => exact fun p v G' H' H1 i1 s1 z R1 => p v G' H' H1 i1 s1 ⟨cv _ _ _ _ _ i1.gh z.1, z.2⟩ R1
  | ex c e' => exact id
  | bad => exact id
/-- what is new, frozen -/
theorem x_fz {t : TE} {q : ORep α} {m : ε → Rs ε α} (h : EX M R t (fs q) m) : EX M R t (fz (rz q)) m := fun F G H σ e i hR Q p => by
  refine h F G H σ e i hR Q ?_
  revert p
  cases m e with
  | ok a e' =>
    rintro p v G' H' H1 i1 s1 ⟨L, ho, rfl, h1, h2, h3, h4, rfl⟩ R1
    have sg : Sub G' (upd G' L ho) := sub_upd h2
    refine p (.ref L) (upd G' L ho) H' H' ⟨upd_sub i1.gh h1, i1.g0.trans sg, fun b hb hn => ?_, i1.fr, i1.al, i1.xs, fun b hb => ?_, i1.ys, fun b hb => ?_, fun b xs hb => sg _ _ (i1.tp b xs hb)⟩ (s1.trans sg) ⟨⟨L, ho, rfl, upd_same, q.mono sg h4⟩, rfl⟩ (R.mono sg hide_sub (fun b hb hn => ?_) R1)
    · rcases upd_some hn with rfl | z
      · exact absurd h3.1 hb
      · exact i1.new b hb z
    · rw [upd_ne (show b ≠ L from fun z => hb (by rw [z]; exact h3.2.1))]
      exact i1.xg b hb
    · rw [upd_ne (show b ≠ L from fun z => hb (by rw [z]; exact h3.2.2))]
      exact i1.yg b hb
    · rcases upd_some hn with rfl | z
      · exact absurd hide_same hb
      · exact z
  | ex c e' => exact id
  | bad => exact id
/-- held otherwise -/
theorem x_rep {t : Sg → Hp → (ν → Hp → Prop) → Prop} {r r' : GR ν α} {m : ε → Rs ε α} (k : ∀ K G v a, r.rel K G v a → r'.rel K G v a) (h : EX M R t (fz r) m) : EX M R t (fz r') m := fun F G H σ e i hR Q p => by
  refine h F G H σ e i hR Q ?_
  revert p
  cases m e with
  | ok a e' => exact fun p v G' H' H1 i1 s1 z R1 => p v G' H' H1 i1 s1 ⟨k _ _ _ _ z.1, z.2⟩ R1
  | ex c e' => exact id
  | bad => exact id
def mC (a : α) : ε → Rs ε α := fun e => .ok a e
theorem x_c {v : V} {a : α} {r : Rep α} (h : ∀ G, r.rel M.K G v a) : EX M R (tC v) (fz r) (mC a) := fun F G H σ e i hR Q p => p v G H H i .refl ⟨h G, rfl⟩ hR
end
/-! ## the names of a def, slot by slot -/
def eNil : ERep Unit := ⟨fun _ _ _ _ σ _ => σ = [], fun _ _ _ h => h, fun h => h, fun h => h⟩
/-- a name that holds frozen data -/
def eFr {α ε : Type} (r : Rep α) (R : ERep ε) : ERep (Option α × ε) :=
  ⟨fun K F G H σ e => ∃ o σ', σ = o :: σ' ∧ (∀ x, e.1 = some x → ∃ v, o = some v ∧ r.rel K G v x) ∧ R.rel K F G H σ' e.2, fun g h n ⟨o, σ', h1, h2, h3⟩ =>
    ⟨o, σ', h1, fun x hx => let ⟨v, a, b⟩ := h2 x hx; ⟨v, a, r.mono g b⟩, R.mono g h n h3⟩,
   fun ⟨o, σ', h1, h2, h3⟩ => ⟨o, σ', h1, h2, R.lock h3⟩, fun ⟨o, σ', h1, h2, h3⟩ => ⟨o, σ', h1, h2, R.unlock h3⟩⟩
/-- a name that holds an object of one's own -/
class OwnP (own : Frm → Addr → Prop) : Prop where
  lock : ∀ {F L D o}, own F L → L ≠ D → own (F.lock D o) L
  unlock : ∀ {F L D o}, own (F.lock D o) L → L ≠ D ∧ own F L
  lockY : ∀ {F L D o}, own F L → L ≠ D → own (F.lockY D o) L
  unlockY : ∀ {F L D o}, own (F.lockY D o) L → L ≠ D ∧ own F L
instance ownN_p : OwnP ownN := by
  refine ⟨fun h n => ⟨h.1, (upd_ne n).trans h.2.1, h.2.2⟩, fun {F L D o} h => ?_, fun h n => ⟨h.1, h.2.1, (upd_ne n).trans h.2.2⟩, fun {F L D o} h => ?_⟩
  · have n : L ≠ D := fun z => by
      have := h.2.1
      rw [z] at this
      exact nomatch (show some o = none from upd_same.symm.trans this)
    exact ⟨n, h.1, (upd_ne n).symm.trans h.2.1, h.2.2⟩
  · have n : L ≠ D := fun z => by
      have := h.2.2
      rw [z] at this
      exact nomatch (show some o = none from upd_same.symm.trans this)
    exact ⟨n, h.1, h.2.1, (upd_ne n).symm.trans h.2.2⟩
instance ownI_p {k : Nat} : OwnP (ownI k) := by
  refine ⟨fun h n => ⟨h.1, (upd_ne n).trans h.2.1, h.2.2⟩, fun {F L D o} h => ?_, fun h n => ⟨h.1, h.2.1, (upd_ne n).trans h.2.2⟩, fun {F L D o} h => ?_⟩
  · have n : L ≠ D := fun z => by
      have := h.2.1
      rw [z] at this
      exact nomatch (show some o = none from upd_same.symm.trans this)
    exact ⟨n, h.1, (upd_ne n).symm.trans h.2.1, h.2.2⟩
  · have n : L ≠ D := fun z => by
      have := h.2.2
      rw [z] at this
      exact nomatch (show some o = none from upd_same.symm.trans this)
    exact ⟨n, h.1, h.2.1, (upd_ne n).symm.trans h.2.2⟩
def eOwP {α ε : Type} (own : Frm → Addr → Prop) [op : OwnP own] (q : ORep α) (R : ERep ε) : ERep (Option α × ε) :=
  ⟨fun K F G H σ e => ∃ o σ', σ = o :: σ' ∧ ((e.1 = none ∧ R.rel K F G H σ' e.2) ∨ ∃ x L ho, e.1 = some x ∧ o = some (.ref L) ∧ H L = some ho ∧ G L = none ∧ own F L ∧ q.rel K G ho x ∧ R.rel K F G (hide H L) σ' e.2), fun {K F G G' H H' σ e} g h n ⟨o, σ', h1, h2⟩ => by
    refine ⟨o, σ', h1, ?_⟩
    rcases h2 with ⟨a, b⟩ | ⟨x, L, ho, a1, a2, a3, a4, a5, a6, a7⟩
    · exact .inl ⟨a, R.mono g h n b⟩
    · refine .inr ⟨x, L, ho, a1, a2, h _ _ a3, ?_, a5, q.mono g a6, R.mono g h.hide (fun b hb hn => n b (hide_sub.ne hb) hn) a7⟩
      cases z : G' L with
      | none => rfl
      | some u => exact absurd a4 (n L (by rw [a3]; intro z; cases z) (by rw [z]; intro z; cases z)),
   fun {K F G H σ e D o'} ⟨o, σ', h1, h2⟩ => by
    refine ⟨o, σ', h1, ?_⟩
    rcases h2 with ⟨a, b⟩ | ⟨x, L, ho, a1, a2, a3, a4, a5, a6, a7⟩
    · exact .inl ⟨a, R.lock b⟩
    · obtain ⟨n, a3'⟩ := hide_some a3
      exact .inr ⟨x, L, ho, a1, a2, a3', a4, op.lock a5 n, a6, R.lock (by rw [hide_comm]; exact a7)⟩,
   fun {K F G H σ e D o'} ⟨o, σ', h1, h2⟩ => by
    refine ⟨o, σ', h1, ?_⟩
    rcases h2 with ⟨a, b⟩ | ⟨x, L, ho, a1, a2, a3, a4, a5, a6, a7⟩
    · exact .inl ⟨a, R.unlock b⟩
    · obtain ⟨n, a5'⟩ := op.unlock a5
      exact .inr ⟨x, L, ho, a1, a2, by rw [hide_ne n]; exact a3, a4, a5', a6, by rw [hide_comm]; exact R.unlock a7⟩⟩
abbrev eOw {α ε : Type} (q : ORep α) (R : ERep ε) : ERep (Option α × ε) := eOwP ownN q R
abbrev eIo {α ε : Type} (k : Nat) (q : ORep α) (R : ERep ε) : ERep (Option α × ε) := eOwP (ownI k) q R
/-- a name that holds an object that stood before and is only read -/
def eBo {α ε : Type} (q : ORep α) (R : ERep ε) : ERep (Option α × ε) :=
  ⟨fun K F G H σ e => ∃ o σ', σ = o :: σ' ∧ (∀ x, e.1 = some x → ∃ L ho, o = some (.ref L) ∧ F.H0 L = some ho ∧ L ∉ F.ws ∧ q.rel K G ho x) ∧ R.rel K F G H σ' e.2, fun g h n ⟨o, σ', h1, h2, h3⟩ =>
    ⟨o, σ', h1, fun x hx => let ⟨L, ho, a, b, c, d⟩ := h2 x hx; ⟨L, ho, a, b, c, q.mono g d⟩, R.mono g h n h3⟩,
   fun ⟨o, σ', h1, h2, h3⟩ => ⟨o, σ', h1, h2, R.lock h3⟩, fun ⟨o, σ', h1, h2, h3⟩ => ⟨o, σ', h1, h2, R.unlock h3⟩⟩
/-- a name that holds a dict that is walked -/
def ePr {α ε : Type} (q : ORep α) (R : ERep ε) : ERep (Option α × ε) :=
  ⟨fun K F G H σ e => ∃ o σ', σ = o :: σ' ∧ (∀ x, e.1 = some x → ∃ L ho, o = some (.ref L) ∧ F.Y L = some ho ∧ q.rel K G ho x) ∧ R.rel K F G H σ' e.2, fun g h n ⟨o, σ', h1, h2, h3⟩ =>
    ⟨o, σ', h1, fun x hx => let ⟨L, ho, a, b, d⟩ := h2 x hx; ⟨L, ho, a, b, q.mono g d⟩, R.mono g h n h3⟩,
   fun ⟨o, σ', h1, h2, h3⟩ => ⟨o, σ', h1, h2, R.lock h3⟩, fun ⟨o, σ', h1, h2, h3⟩ => ⟨o, σ', h1, h2, R.unlock h3⟩⟩
/-- a slot of the mirror's names -/
structure Ln (ε α : Type) where
  get : ε → Option α
  put : Option α → ε → ε
def Ln.z {α ε : Type} : Ln (Option α × ε) α := ⟨fun e => e.1, fun a e => (a, e.2)⟩
def Ln.s {α β ε : Type} (l : Ln ε α) : Ln (β × ε) α := ⟨fun e => l.get e.2, fun a e => (e.1, l.put a e.2)⟩
section
variable {α β ε : Type} {l : Ln ε α} {e : ε} {x y : Option α} {z : β}
@[simp] theorem Ln.get_z {a : Option α} : (Ln.z : Ln (Option α × ε) α).get (a, e) = a := rfl
@[simp] theorem Ln.put_z {a : Option α} : (Ln.z : Ln (Option α × ε) α).put x (a, e) = (x, e) := rfl
@[simp] theorem Ln.get_s : (Ln.s l : Ln (β × ε) α).get (z, e) = l.get e := rfl
@[simp] theorem Ln.put_s : (Ln.s l : Ln (β × ε) α).put x (z, e) = (z, l.put x e) := rfl
end
structure FrAt {α ε : Type} (R : ERep ε) (n : Nat) (r : Rep α) (l : Ln ε α) : Prop where
  rd : ∀ {K F G H σ e a}, R.rel K F G H σ e → l.get e = some a → ∃ v, σ[n]? = some (some v) ∧ r.rel K G v a
  wr : ∀ {K F G H σ e a v}, R.rel K F G H σ e → r.rel K G v a → R.rel K F G H (σ.set n (some v)) (l.put (some a) e)
  kl : ∀ {K F G H σ e}, R.rel K F G H σ e → R.rel K F G H σ (l.put none e)
  wn : ∀ {K F G H σ e}, R.rel K F G H σ e → R.rel K F G H (σ.set n none) (l.put none e)
  rs : ∀ {K F G H G' H' σ e e'}, R.rel K F G H σ e → Sub G G' → R.rel K F G' H' (σ.set n none) e' → R.rel K F G' H' σ (l.put (l.get e) e')
structure OwAt {α ε : Type} (R : ERep ε) (n : Nat) (own : Frm → Addr → Prop) (q : ORep α) (l : Ln ε α) : Prop where
  rd : ∀ {K F G H σ e a}, R.rel K F G H σ e → l.get e = some a → ∃ L ho, σ[n]? = some (some (.ref L)) ∧ H L = some ho ∧ G L = none ∧ own F L ∧ q.rel K G ho a ∧ R.rel K F G (hide H L) σ (l.put none e)
  bk : ∀ {K F G H σ e L ho a}, R.rel K F G (hide H L) σ e → σ[n]? = some (some (.ref L)) → H L = some ho → G L = none → own F L → q.rel K G ho a → R.rel K F G H σ (l.put (some a) e)
  wr : ∀ {K F G H σ e L ho a}, R.rel K F G (hide H L) σ e → H L = some ho → G L = none → own F L → q.rel K G ho a → R.rel K F G H (σ.set n (some (.ref L))) (l.put (some a) e)
  kl : ∀ {K F G H σ e}, R.rel K F G H σ e → R.rel K F G H σ (l.put none e)
structure BoAt {α ε : Type} (R : ERep ε) (n : Nat) (q : ORep α) (l : Ln ε α) : Prop where
  rd : ∀ {K F G H σ e a}, R.rel K F G H σ e → l.get e = some a → ∃ L ho, σ[n]? = some (some (.ref L)) ∧ F.H0 L = some ho ∧ L ∉ F.ws ∧ q.rel K G ho a
section
variable {α β ε : Type} {R : ERep ε} {n : Nat} {r : Rep α} {q : ORep α} {own own' : Frm → Addr → Prop} [op : OwnP own] [op' : OwnP own'] {l : Ln ε α} {r' : Rep β} {q' : ORep β}
theorem FrAt.z : FrAt (eFr r R) 0 r Ln.z := by
  refine ⟨?_, ?_, ?_, ?_, ?_⟩
  · rintro K F G H σ e a ⟨o, σ', rfl, h2, h3⟩ h
    obtain ⟨v, rfl, hv⟩ := h2 a h
    exact ⟨v, rfl, hv⟩
  · rintro K F G H σ e a v ⟨o, σ', rfl, h2, h3⟩ h
    exact ⟨some v, σ', rfl, fun x hx => ⟨v, rfl, by cases hx; exact h⟩, h3⟩
  · rintro K F G H σ e ⟨o, σ', rfl, h2, h3⟩
    exact ⟨o, σ', rfl, fun x hx => (nomatch hx), h3⟩
  · rintro K F G H σ e ⟨o, σ', rfl, h2, h3⟩
    exact ⟨none, σ', rfl, fun x hx => (nomatch hx), h3⟩
  · rintro K F G H G' H' σ e e' ⟨o, σ', rfl, h2, h3⟩ s ⟨o', σ'', h4, h5, h6⟩
    obtain ⟨rfl, rfl⟩ := List.cons.inj h4
    exact ⟨o, σ', rfl, fun x hx => let ⟨v, a, b⟩ := h2 x hx; ⟨v, a, r.mono s b⟩, h6⟩
theorem FrAt.sF (h : FrAt R n r l) : FrAt (eFr r' R) (n + 1) r (Ln.s l) := by
  refine ⟨?_, ?_, ?_, ?_, ?_⟩
  · rintro K F G H σ e a ⟨o, σ', rfl, h2, h3⟩ hh
    exact h.rd h3 hh
  · rintro K F G H σ e a v ⟨o, σ', rfl, h2, h3⟩ hh
    exact ⟨o, _, rfl, h2, h.wr h3 hh⟩
  · rintro K F G H σ e ⟨o, σ', rfl, h2, h3⟩
    exact ⟨o, _, rfl, h2, h.kl h3⟩
  · rintro K F G H σ e ⟨o, σ', rfl, h2, h3⟩
    exact ⟨o, _, rfl, h2, h.wn h3⟩
  · rintro K F G H G' H' σ e e' ⟨o, σ', rfl, h2, h3⟩ s ⟨o', σ'', h4, h5, h6⟩
    obtain ⟨rfl, rfl⟩ := List.cons.inj h4
    exact ⟨_, _, rfl, h5, h.rs h3 s h6⟩
theorem FrAt.sB (h : FrAt R n r l) : FrAt (eBo q' R) (n + 1) r (Ln.s l) := by
  refine ⟨?_, ?_, ?_, ?_, ?_⟩
  · rintro K F G H σ e a ⟨o, σ', rfl, h2, h3⟩ hh
    exact h.rd h3 hh
  · rintro K F G H σ e a v ⟨o, σ', rfl, h2, h3⟩ hh
    exact ⟨o, _, rfl, h2, h.wr h3 hh⟩
  · rintro K F G H σ e ⟨o, σ', rfl, h2, h3⟩
    exact ⟨o, _, rfl, h2, h.kl h3⟩
  · rintro K F G H σ e ⟨o, σ', rfl, h2, h3⟩
    exact ⟨o, _, rfl, h2, h.wn h3⟩
  · rintro K F G H G' H' σ e e' ⟨o, σ', rfl, h2, h3⟩ s ⟨o', σ'', h4, h5, h6⟩
    obtain ⟨rfl, rfl⟩ := List.cons.inj h4
    exact ⟨_, _, rfl, h5, h.rs h3 s h6⟩
theorem FrAt.sO (h : FrAt R n r l) : FrAt (eOwP own q' R) (n + 1) r (Ln.s l) := by
  refine ⟨?_, ?_, ?_, ?_, ?_⟩
  · rintro K F G H σ e a ⟨o, σ', rfl, ⟨h1, h2⟩ | ⟨x, L, ho, a1, a2, a3, a4, a5, a6, a7⟩⟩ hh
    · exact h.rd h2 hh
    · exact h.rd a7 hh
  · rintro K F G H σ e a v ⟨o, σ', rfl, ⟨h1, h2⟩ | ⟨x, L, ho, a1, a2, a3, a4, a5, a6, a7⟩⟩ hh
    · exact ⟨o, _, rfl, .inl ⟨h1, h.wr h2 hh⟩⟩
    · exact ⟨o, _, rfl, .inr ⟨x, L, ho, a1, a2, a3, a4, a5, a6, h.wr a7 hh⟩⟩
  · rintro K F G H σ e ⟨o, σ', rfl, ⟨h1, h2⟩ | ⟨x, L, ho, a1, a2, a3, a4, a5, a6, a7⟩⟩
    · exact ⟨o, _, rfl, .inl ⟨h1, h.kl h2⟩⟩
    · exact ⟨o, _, rfl, .inr ⟨x, L, ho, a1, a2, a3, a4, a5, a6, h.kl a7⟩⟩
  · rintro K F G H σ e ⟨o, σ', rfl, ⟨h1, h2⟩ | ⟨x, L, ho, a1, a2, a3, a4, a5, a6, a7⟩⟩
    · exact ⟨o, _, rfl, .inl ⟨h1, h.wn h2⟩⟩
    · exact ⟨o, _, rfl, .inr ⟨x, L, ho, a1, a2, a3, a4, a5, a6, h.wn a7⟩⟩
  · rintro K F G H G' H' σ e e' ⟨o, σ', rfl, hx⟩ s ⟨o', σ'', h4, hy⟩
    obtain ⟨rfl, rfl⟩ := List.cons.inj h4
    have old : ∃ H1, R.rel K F G H1 σ' e.2 := by
      rcases hx with ⟨_, h2⟩ | ⟨_, _, _, _, _, _, _, _, _, a7⟩
      · exact ⟨_, h2⟩
      · exact ⟨_, a7⟩
    obtain ⟨H1, h3⟩ := old
    rcases hy with ⟨h1, h2⟩ | ⟨x, L, ho, a1, a2, a3, a4, a5, a6, a7⟩
    · exact ⟨_, _, rfl, .inl ⟨h1, h.rs h3 s h2⟩⟩
    · exact ⟨_, _, rfl, .inr ⟨x, L, ho, a1, a2, a3, a4, a5, a6, h.rs h3 s a7⟩⟩
theorem FrAt.sP (h : FrAt R n r l) : FrAt (ePr q' R) (n + 1) r (Ln.s l) := by
  refine ⟨?_, ?_, ?_, ?_, ?_⟩
  · rintro K F G H σ e a ⟨o, σ', rfl, h2, h3⟩ hh
    exact h.rd h3 hh
  · rintro K F G H σ e a v ⟨o, σ', rfl, h2, h3⟩ hh
    exact ⟨o, _, rfl, h2, h.wr h3 hh⟩
  · rintro K F G H σ e ⟨o, σ', rfl, h2, h3⟩
    exact ⟨o, _, rfl, h2, h.kl h3⟩
  · rintro K F G H σ e ⟨o, σ', rfl, h2, h3⟩
    exact ⟨o, _, rfl, h2, h.wn h3⟩
  · rintro K F G H G' H' σ e e' ⟨o, σ', rfl, h2, h3⟩ s ⟨o', σ'', h4, h5, h6⟩
    obtain ⟨rfl, rfl⟩ := List.cons.inj h4
    exact ⟨_, _, rfl, h5, h.rs h3 s h6⟩
theorem OwAt.z : OwAt (eOwP own q R) 0 own q Ln.z := by
  refine ⟨?_, ?_, ?_, ?_⟩
  · rintro K F G H σ e a ⟨o, σ', rfl, ⟨h1, h2⟩ | ⟨x, L, ho, a1, a2, a3, a4, a5, a6, a7⟩⟩ hh
    · rw [show (Ln.z : Ln _ α).get e = e.1 from rfl, h1] at hh; cases hh
    · rw [show (Ln.z : Ln _ α).get e = e.1 from rfl, a1] at hh
      cases hh
      exact ⟨L, ho, by rw [a2]; rfl, a3, a4, a5, a6, o, _, rfl, .inl ⟨rfl, a7⟩⟩
  · rintro K F G H σ e L ho a ⟨o, σ', rfl, ⟨h1, h2⟩ | ⟨x, L', ho', a1, a2, a3, a4, a5, a6, a7⟩⟩ hs hl gl ow hq
    · exact ⟨o, _, rfl, .inr ⟨a, L, ho, rfl, by simpa using hs, hl, gl, ow, hq, h2⟩⟩
    · exact ⟨o, _, rfl, .inr ⟨a, L, ho, rfl, by simpa using hs, hl, gl, ow, hq, R.mono .refl hide_sub (fun b _ h => h) a7⟩⟩
  · rintro K F G H σ e L ho a ⟨o, σ', rfl, ⟨h1, h2⟩ | ⟨x, L', ho', a1, a2, a3, a4, a5, a6, a7⟩⟩ hl gl ow hq
    · exact ⟨_, _, rfl, .inr ⟨a, L, ho, rfl, rfl, hl, gl, ow, hq, h2⟩⟩
    · exact ⟨_, _, rfl, .inr ⟨a, L, ho, rfl, rfl, hl, gl, ow, hq, R.mono .refl hide_sub (fun b _ h => h) a7⟩⟩
  · rintro K F G H σ e ⟨o, σ', rfl, ⟨h1, h2⟩ | ⟨x, L', ho', a1, a2, a3, a4, a5, a6, a7⟩⟩
    · exact ⟨o, _, rfl, .inl ⟨rfl, h2⟩⟩
    · exact ⟨o, _, rfl, .inl ⟨rfl, R.mono .refl hide_sub (fun b _ h => h) a7⟩⟩
theorem OwAt.sF (h : OwAt R n own q l) : OwAt (eFr r' R) (n + 1) own q (Ln.s l) := by
  refine ⟨?_, ?_, ?_, ?_⟩
  · rintro K F G H σ e a ⟨o, σ', rfl, h2, h3⟩ hh
    obtain ⟨L, ho, b1, b2, b3, b4, b5, b6⟩ := h.rd h3 hh
    exact ⟨L, ho, b1, b2, b3, b4, b5, o, _, rfl, h2, b6⟩
  · rintro K F G H σ e L ho a ⟨o, σ', rfl, h2, h3⟩ hs hl gl ow hq
    exact ⟨o, _, rfl, h2, h.bk h3 hs hl gl ow hq⟩
  · rintro K F G H σ e L ho a ⟨o, σ', rfl, h2, h3⟩ hl gl ow hq
    exact ⟨o, _, rfl, h2, h.wr h3 hl gl ow hq⟩
  · rintro K F G H σ e ⟨o, σ', rfl, h2, h3⟩
    exact ⟨o, _, rfl, h2, h.kl h3⟩
theorem OwAt.sB (h : OwAt R n own q l) : OwAt (eBo q' R) (n + 1) own q (Ln.s l) := by
  refine ⟨?_, ?_, ?_, ?_⟩
  · rintro K F G H σ e a ⟨o, σ', rfl, h2, h3⟩ hh
    obtain ⟨L, ho, b1, b2, b3, b4, b5, b6⟩ := h.rd h3 hh
    exact ⟨L, ho, b1, b2, b3, b4, b5, o, _, rfl, h2, b6⟩
  · rintro K F G H σ e L ho a ⟨o, σ', rfl, h2, h3⟩ hs hl gl ow hq
    exact ⟨o, _, rfl, h2, h.bk h3 hs hl gl ow hq⟩
  · rintro K F G H σ e L ho a ⟨o, σ', rfl, h2, h3⟩ hl gl ow hq
    exact ⟨o, _, rfl, h2, h.wr h3 hl gl ow hq⟩
  · rintro K F G H σ e ⟨o, σ', rfl, h2, h3⟩
    exact ⟨o, _, rfl, h2, h.kl h3⟩
theorem OwAt.sO (h : OwAt R n own q l) : OwAt (eOwP own' q' R) (n + 1) own q (Ln.s l) := by
  refine ⟨?_, ?_, ?_, ?_⟩
  · rintro K F G H σ e a ⟨o, σ', rfl, ⟨h1, h2⟩ | ⟨x, L', ho', a1, a2, a3, a4, a5, a6, a7⟩⟩ hh
    · obtain ⟨L, ho, b1, b2, b3, b4, b5, b6⟩ := h.rd h2 hh
      exact ⟨L, ho, b1, b2, b3, b4, b5, o, _, rfl, .inl ⟨h1, b6⟩⟩
    · obtain ⟨L, ho, b1, b2, b3, b4, b5, b6⟩ := h.rd a7 hh
      obtain ⟨n1, b2'⟩ := hide_some b2
      refine ⟨L, ho, b1, b2', b3, b4, b5, o, _, rfl, .inr ⟨x, L', ho', a1, a2, by rw [hide_ne n1.symm]; exact a3, a4, a5, a6, ?_⟩⟩
      rw [hide_comm]
      exact b6
  · rintro K F G H σ e L ho a ⟨o, σ', rfl, ⟨h1, h2⟩ | ⟨x, L', ho', a1, a2, a3, a4, a5, a6, a7⟩⟩ hs hl gl ow hq
    · exact ⟨o, _, rfl, .inl ⟨h1, h.bk h2 hs hl gl ow hq⟩⟩
    · obtain ⟨n1, a3'⟩ := hide_some a3
      refine ⟨o, _, rfl, .inr ⟨x, L', ho', a1, a2, a3', a4, a5, a6, h.bk ?_ hs (by rw [hide_ne n1.symm]; exact hl) gl ow hq⟩⟩
      rw [hide_comm]
      exact a7
  · rintro K F G H σ e L ho a ⟨o, σ', rfl, ⟨h1, h2⟩ | ⟨x, L', ho', a1, a2, a3, a4, a5, a6, a7⟩⟩ hl gl ow hq
    · exact ⟨o, _, rfl, .inl ⟨h1, h.wr h2 hl gl ow hq⟩⟩
    · obtain ⟨n1, a3'⟩ := hide_some a3
      refine ⟨o, _, rfl, .inr ⟨x, L', ho', a1, a2, a3', a4, a5, a6, h.wr ?_ (by rw [hide_ne n1.symm]; exact hl) gl ow hq⟩⟩
      rw [hide_comm]
      exact a7
  · rintro K F G H σ e ⟨o, σ', rfl, ⟨h1, h2⟩ | ⟨x, L', ho', a1, a2, a3, a4, a5, a6, a7⟩⟩
    · exact ⟨o, _, rfl, .inl ⟨h1, h.kl h2⟩⟩
    · exact ⟨o, _, rfl, .inr ⟨x, L', ho', a1, a2, a3, a4, a5, a6, h.kl a7⟩⟩
theorem OwAt.sP (h : OwAt R n own q l) : OwAt (ePr q' R) (n + 1) own q (Ln.s l) := by
  refine ⟨?_, ?_, ?_, ?_⟩
  · rintro K F G H σ e a ⟨o, σ', rfl, h2, h3⟩ hh
    obtain ⟨L, ho, b1, b2, b3, b4, b5, b6⟩ := h.rd h3 hh
    exact ⟨L, ho, b1, b2, b3, b4, b5, o, _, rfl, h2, b6⟩
  · rintro K F G H σ e L ho a ⟨o, σ', rfl, h2, h3⟩ hs hl gl ow hq
    exact ⟨o, _, rfl, h2, h.bk h3 hs hl gl ow hq⟩
  · rintro K F G H σ e L ho a ⟨o, σ', rfl, h2, h3⟩ hl gl ow hq
    exact ⟨o, _, rfl, h2, h.wr h3 hl gl ow hq⟩
  · rintro K F G H σ e ⟨o, σ', rfl, h2, h3⟩
    exact ⟨o, _, rfl, h2, h.kl h3⟩
theorem BoAt.sP (h : BoAt R n q l) : BoAt (ePr q' R) (n + 1) q (Ln.s l) := ⟨by
  rintro K F G H σ e a ⟨o, σ', rfl, h2, h3⟩ hh
  exact h.rd h3 hh⟩
theorem BoAt.z : BoAt (eBo q R) 0 q Ln.z := ⟨by
  rintro K F G H σ e a ⟨o, σ', rfl, h2, h3⟩ h
  obtain ⟨L, ho, rfl, hv⟩ := h2 a h
  exact ⟨L, ho, rfl, hv⟩⟩
theorem BoAt.sF (h : BoAt R n q l) : BoAt (eFr r' R) (n + 1) q (Ln.s l) := ⟨by
  rintro K F G H σ e a ⟨o, σ', rfl, h2, h3⟩ hh
  exact h.rd h3 hh⟩
theorem BoAt.sB (h : BoAt R n q l) : BoAt (eBo q' R) (n + 1) q (Ln.s l) := ⟨by
  rintro K F G H σ e a ⟨o, σ', rfl, h2, h3⟩ hh
  exact h.rd h3 hh⟩
theorem BoAt.sO (h : BoAt R n q l) : BoAt (eOwP own' q' R) (n + 1) q (Ln.s l) := ⟨by
  rintro K F G H σ e a ⟨o, σ', rfl, ⟨h1, h2⟩ | ⟨x, L', ho', a1, a2, a3, a4, a5, a6, a7⟩⟩ hh
  · exact h.rd h2 hh
  · exact h.rd a7 hh⟩
structure PrAt {α ε : Type} (R : ERep ε) (n : Nat) (q : ORep α) (l : Ln ε α) : Prop where
  rd : ∀ {K F G H σ e a}, R.rel K F G H σ e → l.get e = some a → ∃ L ho, σ[n]? = some (some (.ref L)) ∧ F.Y L = some ho ∧ q.rel K G ho a
theorem PrAt.z : PrAt (ePr q R) 0 q Ln.z := ⟨by
  rintro K F G H σ e a ⟨o, σ', rfl, h2, h3⟩ h
  obtain ⟨L, ho, rfl, hv⟩ := h2 a h
  exact ⟨L, ho, rfl, hv⟩⟩
theorem PrAt.sF (h : PrAt R n q l) : PrAt (eFr r' R) (n + 1) q (Ln.s l) := ⟨by
  rintro K F G H σ e a ⟨o, σ', rfl, h2, h3⟩ hh
  exact h.rd h3 hh⟩
theorem PrAt.sB (h : PrAt R n q l) : PrAt (eBo q' R) (n + 1) q (Ln.s l) := ⟨by
  rintro K F G H σ e a ⟨o, σ', rfl, h2, h3⟩ hh
  exact h.rd h3 hh⟩
theorem PrAt.sO (h : PrAt R n q l) : PrAt (eOwP own' q' R) (n + 1) q (Ln.s l) := ⟨by
  rintro K F G H σ e a ⟨o, σ', rfl, ⟨h1, h2⟩ | ⟨x, L', ho', a1, a2, a3, a4, a5, a6, a7⟩⟩ hh
  · exact h.rd h2 hh
  · exact h.rd a7 hh⟩
/-- a dict is locked while it is walked: the names under the lock -/
structure LkR (R : ERep ε) : Prop where
  lk : ∀ {K F G H σ e D o}, R.rel K F G (hide H D) σ e → R.rel K (F.lockY D o) G H σ e
  ul : ∀ {K F G H σ e D o}, R.rel K (F.lockY D o) G H σ e → R.rel K F G (hide H D) σ e
theorem LkR.nil : LkR eNil := ⟨fun h => h, fun h => h⟩
theorem LkR.fr (h : LkR R) : LkR (eFr r R) := ⟨fun ⟨o, σ', h1, h2, h3⟩ => ⟨o, σ', h1, h2, h.lk h3⟩, fun ⟨o, σ', h1, h2, h3⟩ => ⟨o, σ', h1, h2, h.ul h3⟩⟩
theorem LkR.bo (h : LkR R) : LkR (eBo q R) := ⟨fun ⟨o, σ', h1, h2, h3⟩ => ⟨o, σ', h1, h2, h.lk h3⟩, fun ⟨o, σ', h1, h2, h3⟩ => ⟨o, σ', h1, h2, h.ul h3⟩⟩
theorem LkR.ow (h : LkR R) : LkR (eOwP own q R) := by
  refine ⟨?_, ?_⟩
  · rintro K F G H σ e D o' ⟨o, σ', h1, h2⟩
    refine ⟨o, σ', h1, ?_⟩
    rcases h2 with ⟨a, b⟩ | ⟨x, L, ho, a1, a2, a3, a4, a5, a6, a7⟩
    · exact .inl ⟨a, h.lk b⟩
    · obtain ⟨n, a3'⟩ := hide_some a3
      exact .inr ⟨x, L, ho, a1, a2, a3', a4, op.lockY a5 n, a6, h.lk (by rw [hide_comm]; exact a7)⟩
  · rintro K F G H σ e D o' ⟨o, σ', h1, h2⟩
    refine ⟨o, σ', h1, ?_⟩
    rcases h2 with ⟨a, b⟩ | ⟨x, L, ho, a1, a2, a3, a4, a5, a6, a7⟩
    · exact .inl ⟨a, h.ul b⟩
    · obtain ⟨n, a5'⟩ := op.unlockY a5
      exact .inr ⟨x, L, ho, a1, a2, by rw [hide_ne n]; exact a3, a4, a5', a6, by rw [hide_comm]; exact h.ul a7⟩
structure Sw (R R' : ERep ε) (n : Nat) (q' : ORep α) (l : Ln ε α) : Prop where
  to : ∀ {K F G H σ e L ho a}, R.rel K F G (hide H L) σ (l.put none e) → σ[n]? = some (some (.ref L)) → q'.rel K G ho a → R'.rel K (F.lockY L ho) G H σ (l.put (some a) e)
  bk : ∀ {K F G H σ e L ho}, R'.rel K (F.lockY L ho) G H σ e → R.rel K F G (hide H L) σ (l.put none e)
theorem Sw.z {q1 : ORep α} (h : LkR R) : Sw (eOwP own q R) (ePr q1 R) 0 q1 Ln.z := by
  refine ⟨?_, ?_⟩
  · rintro K F G H σ e L ho a ⟨o, σ', rfl, ⟨h1, h2⟩ | ⟨x, L', ho', a1, a2, a3, a4, a5, a6, a7⟩⟩ hs hq
    · exact ⟨o, σ', rfl, fun x hx => ⟨L, ho, by simpa using hs, upd_same, by cases hx; exact hq⟩, h.lk h2⟩
    · cases a1
  · rintro K F G H σ e L ho ⟨o, σ', rfl, h1, h2⟩
    exact ⟨o, σ', rfl, .inl ⟨rfl, h.ul h2⟩⟩
theorem Sw.sF {R1 R1' : ERep ε} {q1 : ORep α} (h : Sw R1 R1' n q1 l) : Sw (eFr r' R1) (eFr r' R1') (n + 1) q1 (Ln.s l) := by
  refine ⟨?_, ?_⟩
  · rintro K F G H σ e L ho a ⟨o, σ', rfl, h1, h2⟩ hs hq
    exact ⟨o, σ', rfl, h1, h.to h2 hs hq⟩
  · rintro K F G H σ e L ho ⟨o, σ', rfl, h1, h2⟩
    exact ⟨o, σ', rfl, h1, h.bk h2⟩
theorem Sw.sB {R1 R1' : ERep ε} {q1 : ORep α} (h : Sw R1 R1' n q1 l) : Sw (eBo q' R1) (eBo q' R1') (n + 1) q1 (Ln.s l) := by
  refine ⟨?_, ?_⟩
  · rintro K F G H σ e L ho a ⟨o, σ', rfl, h1, h2⟩ hs hq
    exact ⟨o, σ', rfl, h1, h.to h2 hs hq⟩
  · rintro K F G H σ e L ho ⟨o, σ', rfl, h1, h2⟩
    exact ⟨o, σ', rfl, h1, h.bk h2⟩
theorem Sw.sO {R1 R1' : ERep ε} {q1 : ORep α} (h : Sw R1 R1' n q1 l) : Sw (eOwP own' q' R1) (eOwP own' q' R1') (n + 1) q1 (Ln.s l) := by
  refine ⟨?_, ?_⟩
  · rintro K F G H σ e L ho a ⟨o, σ', rfl, ⟨h1, h2⟩ | ⟨x, L', ho', a1, a2, a3, a4, a5, a6, a7⟩⟩ hs hq
    · exact ⟨o, σ', rfl, .inl ⟨h1, h.to h2 hs hq⟩⟩
    · obtain ⟨n1, a3'⟩ := hide_some a3
      exact ⟨o, σ', rfl, .inr ⟨x, L', ho', a1, a2, a3', a4, op'.lockY a5 n1, a6, h.to (by rw [hide_comm]; exact a7) hs hq⟩⟩
  · rintro K F G H σ e L ho ⟨o, σ', rfl, ⟨h1, h2⟩ | ⟨x, L', ho', a1, a2, a3, a4, a5, a6, a7⟩⟩
    · exact ⟨o, σ', rfl, .inl ⟨h1, h.bk h2⟩⟩
    · obtain ⟨n1, a5'⟩ := op'.unlockY a5
      exact ⟨o, σ', rfl, .inr ⟨x, L', ho', a1, a2, by rw [hide_ne n1]; exact a3, a4, a5', a6, by rw [hide_comm]; exact h.bk a7⟩⟩
end
/-! ## names read -/
section
variable {α β γ ε ρ ν : Type} {M : Mx} {R : ERep ε} {F : Frm} {G G1 H : Hp} {σ : Sg} {n : Nat} {l : Ln ε α} {own : Frm → Addr → Prop}
def mVar (l : Ln ε α) : ε → Rs ε α := fun e => .of (l.get e) e
theorem x_var {r : Rep α} (at' : FrAt R n r l) : EX M R (tVar n) (fz r) (mVar l) := fun F G H σ e i hR Q p => by
  obtain ⟨b, hb, p2⟩ := of_some p
  obtain ⟨v, h1, h2⟩ := at'.rd hR hb
  exact ⟨v, h1, p2 v G H H i .refl ⟨h2, rfl⟩ hR⟩
/-- an own object, handed over: the name is done with -/
def mMove (l : Ln ε α) : ε → Rs ε α := fun e => .of (l.get e) (l.put none e)
theorem x_move {q : ORep α} (at' : OwAt R n ownN q l) : EX M R (tVar n) (fs q) (mMove l) := fun F G H σ e i hR Q p => by
  obtain ⟨b, hb, p2⟩ := of_some p
  obtain ⟨L, ho, h1, h2, h3, h4, h5, h6⟩ := at'.rd hR hb
  exact ⟨.ref L, h1, p2 (.ref L) G H (hide H L) i .refl ⟨L, ho, rfl, h2, h3, h4, h5, rfl⟩ h6⟩
/-- an object of one's own, a borrowed one, read as it stands -/
theorem x_varO {q : ORep α} (at' : OwAt R n own q l) : EX M R (tVar n) (is (rd q)) (mVar l) := fun F G H σ e i hR Q p => by
  obtain ⟨b, hb, p2⟩ := of_some p
  obtain ⟨L, ho, h1, h2, h3, h4, h5, h6⟩ := at'.rd hR hb
  exact ⟨.ref L, h1, p2 (.ref L) G H H i .refl ⟨⟨L, ho, rfl, h2, h5⟩, rfl⟩ hR⟩
theorem x_varB {q : ORep α} (at' : BoAt R n q l) : EX M R (tVar n) (is (rd q)) (mVar l) := fun F G H σ e i hR Q p => by
  obtain ⟨b, hb, p2⟩ := of_some p
  obtain ⟨L, ho, h1, h2, h3, h5⟩ := at'.rd hR hb
  exact ⟨.ref L, h1, p2 (.ref L) G H H i .refl ⟨⟨L, ho, rfl, i.fr _ _ h3 h2, h5⟩, rfl⟩ hR⟩
/-- the name's object, as it stands; whenever it is asked, it is at the same place -/
structure Late (R : ERep ε) (n : Nat) (q : ORep α) (l : Ln ε α) : Prop where
  rd : ∀ {K F G H σ e a}, IV F G H → R.rel K F G H σ e → l.get e = some a → ∃ L ho, σ[n]? = some (some (.ref L)) ∧ H L = some ho ∧ q.rel K G ho a
theorem Late.ow {q : ORep α} (at' : OwAt R n own q l) : Late R n q l := ⟨fun i h e => let ⟨L, ho, a, b, _, _, c, _⟩ := at'.rd h e; ⟨L, ho, a, b, c⟩⟩
theorem Late.bo {q : ORep α} (at' : BoAt R n q l) : Late R n q l := ⟨fun i h e => let ⟨L, ho, a, b, c, d⟩ := at'.rd h e; ⟨L, ho, a, i.fr _ _ c b, d⟩⟩
theorem Late.pr {q : ORep α} (at' : PrAt R n q l) : Late R n q l := ⟨fun i h e => let ⟨L, ho, a, b, d⟩ := at'.rd h e; ⟨L, ho, a, i.ys _ _ b, d⟩⟩
theorem x_varL {q : ORep α} (at' : Late R n q l) : EX M R (tVar n) (is (rd q)) (mVar l) := fun F G H σ e i hR Q p => by
  obtain ⟨b, hb, p2⟩ := of_some p
  obtain ⟨L, ho, h1, h2, h5⟩ := at'.rd i hR hb
  exact ⟨.ref L, h1, p2 (.ref L) G H H i .refl ⟨⟨L, ho, rfl, h2, h5⟩, rfl⟩ hR⟩
theorem Late.fr {q : ORep α} (at' : FrAt R n (rz q) l) : Late R n q l := ⟨fun i h e => let ⟨v, a, L, ho, b, c, d⟩ := at'.rd h e; ⟨L, ho, by rw [a, b], i.gh _ _ c, d⟩⟩
def mOpL (g : α → β → Option γ) (l : Ln ε α) (m : ε → Rs ε β) : ε → Rs ε γ := fun e => match l.get e with
  | none => .bad
  | some _ => (m e).bind fun b e1 => (mVar l e1).bind fun a e2 => .of (g a b) e2
/-- the first operand is a name's object -/
theorem x_opL {u : Sg → Hp → (ν → Hp → Prop) → Prop} {ν' : Type} {T : V → ν → Hp → (ν' → Hp → Prop) → Prop} {q : ORep α} {s : IR ν β} {r' : GR ν' γ} {g : α → β → Option γ} {m : ε → Rs ε β}
    (vr : VR2 M.K T (rd q) s r' g) (at' : Late R n q l) (h : EX M R u (is s) m) : EX M R (fun σ H Q => tVar n σ H fun x H1 => u σ H1 fun y H2 => T x y H2 Q) (fz r') (mOpL g l m) := fun F G H σ e i hR Q p => by
  unfold mOpL at p
  cases h0 : l.get e with
  | none => rw [h0] at p; exact p.elim
  | some a0 =>
    rw [h0] at p
    obtain ⟨L0, ho0, h1, _⟩ := at'.rd i hR h0
    refine ⟨_, h1, h F G H σ e i hR _ (p.bind (fun _ _ _ _ _ _ _ z => z.2) fun w b e1 G1 H1 i1 s1 R1 r1 p1 => ?_)⟩
    unfold mVar at p1
    cases h2 : l.get e1 with
    | none => rw [h2] at p1; exact p1.elim
    | some a1 =>
      rw [h2] at p1
      obtain ⟨L, ho, h3, h4, h5⟩ := at'.rd i1 R1 h2
      rw [h1] at h3
      cases h3
      obtain ⟨c, hc, p3⟩ := of_some p1
      exact vr G1 H1 _ w a1 b c Q i1.gh ⟨_, ho, rfl, h4, h5⟩ r1.1 hc (p3.fin i1 R1)
theorem x_opLF {u : Sg → Hp → (ν → Hp → Prop) → Prop} {T : V → ν → Hp → (V → Hp → Prop) → Prop} {q : ORep α} {s : IR ν β} {q' : ORep γ} {g : α → β → Option γ} {m : ε → Rs ε β}
    (vr : VF2 M.K T (rd q) s q' g) (at' : Late R n q l) (h : EX M R u (is s) m) : EX M R (fun σ H Q => tVar n σ H fun x H1 => u σ H1 fun y H2 => T x y H2 Q) (fs q') (mOpL g l m) := fun F G H σ e i hR Q p => by
  unfold mOpL at p
  cases h0 : l.get e with
  | none => rw [h0] at p; exact p.elim
  | some a0 =>
    rw [h0] at p
    obtain ⟨L0, ho0, h1, _⟩ := at'.rd i hR h0
    refine ⟨_, h1, h F G H σ e i hR _ (p.bind (fun _ _ _ _ _ _ _ z => z.2) fun w b e1 G1 H1 i1 s1 R1 r1 p1 => ?_)⟩
    unfold mVar at p1
    cases h2 : l.get e1 with
    | none => rw [h2] at p1; exact p1.elim
    | some a1 =>
      rw [h2] at p1
      obtain ⟨L, ho, h3, h4, h5⟩ := at'.rd i1 R1 h2
      rw [h1] at h3
      cases h3
      obtain ⟨c, hc, p3⟩ := of_some p1
      exact vr G1 H1 _ w a1 b c Q i1.gh ⟨_, ho, rfl, h4, h5⟩ r1.1 hc (p3.finF i1 R1)
end
section
variable {ν ν' α β γ ε ρ : Type} {M : Mx} {R : ERep ε} {F : Frm} {G G1 H : Hp} {σ : Sg}
/-- a list that is not too long -/
def szOk (as : List α) : Option (List α) := if as.length ≤ 1000000 then some as else none
theorem szOk_of {as : List α} (h : as.length ≤ 1000000) : szOk as = some as := if_pos h
theorem szOk_some {as bs : List α} (h : szOk as = some bs) : as.length ≤ 1000000 ∧ bs = as := by
  unfold szOk at h
  split at h
  · next hz => cases h; exact ⟨hz, rfl⟩
  · cases h
/-! ## tests -/
theorem x_test {t : TE} {m : ε → Rs ε Bool} (h : EX M R t (fz rB) m) : EX M R (tTest t) (fz bR) m := fun F G H σ e i hR Q p => by
  refine h F G H σ e i hR _ ?_
  revert p
  cases m e with
  | ok a e' => exact fun p v G' H' H1 i1 s1 z R1 => ⟨a, z.1, p a G' H' H1 i1 s1 ⟨rfl, z.2⟩ R1⟩
  | ex c e' => exact id
  | bad => exact id
theorem x_tB {t : TE} {m : ε → Rs ε Bool} (h : EX M R t (fz rB) m) : EX M R (tB t) (fz bR) m := x_test h
def mNot (m : ε → Rs ε Bool) : ε → Rs ε Bool := fun e => (m e).bind fun b e1 => .ok (!b) e1
def mAnd (m n : ε → Rs ε Bool) : ε → Rs ε Bool := fun e => (m e).bind fun b e1 => if b = true then n e1 else .ok false e1
def mOr (m n : ε → Rs ε Bool) : ε → Rs ε Bool := fun e => (m e).bind fun b e1 => if b = true then .ok true e1 else n e1
def mIf (m : ε → Rs ε Bool) (n k : ε → Rs ε α) : ε → Rs ε α := fun e => (m e).bind fun b e1 => if b = true then n e1 else k e1
theorem fz_h {r : GR ν α} : ∀ K F G H v a H1, (fz r).rel K F G H v a H1 → H1 = H := fun _ _ _ _ _ _ _ z => z.2
theorem is_h {r : IR ν α} : ∀ K F G H v a H1, (is r).rel K F G H v a H1 → H1 = H := fun _ _ _ _ _ _ _ z => z.2
theorem x_not {t : TT} {m : ε → Rs ε Bool} (h : EX M R t (fz bR) m) : EX M R (tNot t) (fz bR) (mNot m) := fun F G H σ e i hR Q p =>
  h F G H σ e i hR _ (p.bind fz_h fun v a e1 G1 H1 i1 s1 R1 r1 p1 => by
    have e : v = a := r1.1
    subst e
    exact p1 (!v) G1 H1 H1 i1 .refl ⟨rfl, rfl⟩ R1)
theorem x_and {t u : TT} {m n : ε → Rs ε Bool} (h : EX M R t (fz bR) m) (k : EX M R u (fz bR) n) : EX M R (tAnd t u) (fz bR) (mAnd m n) := fun F G H σ e i hR Q p =>
  h F G H σ e i hR _ (p.bind fz_h fun v a e1 G1 H1 i1 s1 R1 r1 p1 => by
    have e : v = a := r1.1
    subst e
    cases v with
    | false => exact p1 false G1 H1 H1 i1 .refl ⟨rfl, rfl⟩ R1
    | true => exact k F G1 H1 σ e1 i1 R1 Q p1)
theorem x_or {t u : TT} {m n : ε → Rs ε Bool} (h : EX M R t (fz bR) m) (k : EX M R u (fz bR) n) : EX M R (tOr t u) (fz bR) (mOr m n) := fun F G H σ e i hR Q p =>
  h F G H σ e i hR _ (p.bind fz_h fun v a e1 G1 H1 i1 s1 R1 r1 p1 => by
    have e : v = a := r1.1
    subst e
    cases v with
    | true => exact p1 true G1 H1 H1 i1 .refl ⟨rfl, rfl⟩ R1
    | false => exact k F G1 H1 σ e1 i1 R1 Q p1)
theorem x_if {t : TT} {ta tb : TE} {rs : RS V α} {m : ε → Rs ε Bool} {n k : ε → Rs ε α} (h : EX M R t (fz bR) m) (ha : EX M R ta rs n) (hb : EX M R tb rs k) : EX M R (tIf t ta tb) rs (mIf m n k) := fun F G H σ e i hR Q p =>
  h F G H σ e i hR _ (p.bind fz_h fun v a e1 G1 H1 i1 s1 R1 r1 p1 => by
    have e : v = a := r1.1
    subst e
    cases v with
    | true => exact ha F G1 H1 σ e1 i1 R1 Q p1
    | false => exact hb F G1 H1 σ e1 i1 R1 Q p1)
theorem x_notV {t : TE} {m : ε → Rs ε Bool} (h : EX M R t (fz rB) m) : EX M R (tNotV t) (fz rB) (mNot m) := fun F G H σ e i hR Q p =>
  h F G H σ e i hR _ (p.bind fz_h fun v a e1 G1 H1 i1 s1 R1 r1 p1 => ⟨a, r1.1, p1 _ G1 H1 H1 i1 .refl ⟨rfl, rfl⟩ R1⟩)
theorem x_andV {t u : TE} {m n : ε → Rs ε Bool} (h : EX M R t (fz rB) m) (k : EX M R u (fz rB) n) : EX M R (tAndV t u) (fz rB) (mAnd m n) := fun F G H σ e i hR Q p =>
  h F G H σ e i hR _ (p.bind fz_h fun v a e1 G1 H1 i1 s1 R1 r1 p1 => ⟨a, r1.1, by
    cases a with
    | false => exact p1 (.bl false) G1 H1 H1 i1 .refl ⟨rfl, rfl⟩ R1
    | true => exact k F G1 H1 σ e1 i1 R1 Q p1⟩)
theorem x_orV {t u : TE} {m n : ε → Rs ε Bool} (h : EX M R t (fz rB) m) (k : EX M R u (fz rB) n) : EX M R (tOrV t u) (fz rB) (mOr m n) := fun F G H σ e i hR Q p =>
  h F G H σ e i hR _ (p.bind fz_h fun v a e1 G1 H1 i1 s1 R1 r1 p1 => ⟨a, r1.1, by
    cases a with
    | true => exact p1 (.bl true) G1 H1 H1 i1 .refl ⟨rfl, rfl⟩ R1
    | false => exact k F G1 H1 σ e1 i1 R1 Q p1⟩)
/-- a < b < c -/
def mChain (g : α → β → Option Bool) (g' : β → γ → Option Bool) (m : ε → Rs ε α) (n : ε → Rs ε β) (k : ε → Rs ε γ) : ε → Rs ε Bool := fun e => (m e).bind fun a e1 => (n e1).bind fun b e2 => (Rs.of (g a b) e2).bind fun c e3 => if c = true then (k e3).bind fun d e4 => .of (g' b d) e4 else .ok false e3
theorem x_chain {r r' : R2} {ta tb tc : TE} {ra : Rep α} {rb : Rep β} {rc : Rep γ} {g : α → β → Option Bool} {g' : β → γ → Option Bool} {m : ε → Rs ε α} {n : ε → Rs ε β} {k : ε → Rs ε γ}
    (vr : VR2 M.K r (ir ra) (ir rb) rB g) (vr' : VR2 M.K r' (ir rb) (ir rc) rB g') (h : EX M R ta (fz ra) m) (h' : EX M R tb (fz rb) n) (h'' : EX M R tc (fz rc) k) : EX M R (tChain r r' ta tb tc) (fz rB) (mChain g g' m n k) := fun F G H σ e i hR Q p =>
  h F G H σ e i hR _ (p.bind fz_h fun v a e1 G1 H1 i1 s1 R1 r1 p1 => h' F G1 H1 σ e1 i1 R1 _ (p1.bind fz_h fun w b e2 G2 H2 i2 s2 R2 r2 p2 => by
    cases hc : g a b with
    | none => rw [hc] at p2; exact p2.elim
    | some c =>
      rw [hc] at p2
      refine vr G2 H2 v w a b c _ i2.gh (ra.mono s2 r1.1) r2.1 hc fun z G3 H3 st hz => ⟨c, hz, ?_⟩
      have i3 := i2.step st
      have R3 := R.mono st.g st.h st.n R2
      cases c with
      | false => exact p2 (.bl false) G3 H3 H3 i3 st.g ⟨rfl, rfl⟩ R3
      | true =>
        rw [if_pos rfl]
        have p2 : Post M R F G2 σ (fz rB) Q ((k e2).bind fun d e4 => .of (g' b d) e4) := p2
        exact h'' F G3 H3 σ e2 i3 R3 _ ((Post.up p2 st.g).bind fz_h fun x d e4 G4 H4 i4 s4 R4 r4 p4 => by
          obtain ⟨y, hy, p5⟩ := of_some p4
          exact vr' G4 H4 w x b d y Q i4.gh (rb.mono (st.g.trans s4) r2.1) r4.1 hy (p5.fin i4 R4))))
/-! ## arguments -/
def aNil : IR (List V) Unit := fun _ _ _ vs _ => vs = []
def aOne (i : IR V α) : IR (List V) α := fun K G H vs a => ∃ v, vs = [v] ∧ i K G H v a
def aCons (i : IR V α) (j : IR (List V) β) : IR (List V) (α × β) := fun K G H vs p => ∃ v ws, vs = v :: ws ∧ i K G H v p.1 ∧ j K G H ws p.2
def mPair (m : ε → Rs ε α) (n : ε → Rs ε β) : ε → Rs ε (α × β) := fun e => (m e).bind fun a e1 => (n e1).bind fun b e2 => .ok (a, b) e2
def mPairL (l : Ln ε α) (n : ε → Rs ε β) : ε → Rs ε (α × β) := fun e => match l.get e with
  | none => .bad
  | some _ => (n e).bind fun b e1 => (mVar l e1).bind fun a e2 => .ok (a, b) e2
theorem x_anil : EX M R tNil (is aNil) (mC ()) := fun F G H σ e i hR Q p => p [] G H H i .refl ⟨rfl, rfl⟩ hR
theorem x_aone {t : TE} {j : IR V α} {m : ε → Rs ε α} (h : EX M R t (is j) m) : EX M R (tCons t tNil) (is (aOne j)) m := fun F G H σ e i hR Q p => by
  refine h F G H σ e i hR _ ?_
  revert p
  cases m e with
  | ok a e' => exact fun p v G' H' H1 i1 s1 z R1 => p [v] G' H' H1 i1 s1 ⟨⟨v, rfl, z.1⟩, z.2⟩ R1
  | ex c e' => exact id
  | bad => exact id
theorem x_acons {t : TE} {tr : TA} {r : Rep α} {j : IR V α} {k : IR (List V) β} {m : ε → Rs ε α} {n : ε → Rs ε β} (cv : Cv r j) (h : EX M R t (fz r) m) (h' : EX M R tr (is k) n) : EX M R (tCons t tr) (is (aCons j k)) (mPair m n) := fun F G H σ e i hR Q p =>
  h F G H σ e i hR _ (p.bind fz_h fun v a e1 G1 H1 i1 s1 R1 r1 p1 => h' F G1 H1 σ e1 i1 R1 _ (p1.bind is_h fun ws b e2 G2 H2 i2 s2 R2 r2 p2 =>
    p2 (v :: ws) G2 H2 H2 i2 .refl ⟨⟨v, ws, rfl, cv _ _ _ _ _ i2.gh (r.mono s2 r1.1), r2.1⟩, rfl⟩ R2))
theorem x_aconsL {n : Nat} {l : Ln ε α} {tr : TA} {q : ORep α} {k : IR (List V) β} {m : ε → Rs ε β} (at' : Late R n q l) (h' : EX M R tr (is k) m) : EX M R (tCons (tVar n) tr) (is (aCons (rd q) k)) (mPairL l m) := fun F G H σ e i hR Q p => by
  unfold mPairL at p
  cases h0 : l.get e with
  | none => rw [h0] at p; exact p.elim
  | some a0 =>
    rw [h0] at p
    obtain ⟨L0, ho0, h1, _⟩ := at'.rd i hR h0
    refine ⟨_, h1, h' F G H σ e i hR _ (p.bind is_h fun ws b e1 G1 H1 i1 s1 R1 r1 p1 => ?_)⟩
    unfold mVar at p1
    cases h2 : l.get e1 with
    | none => rw [h2] at p1; exact p1.elim
    | some a1 =>
      rw [h2] at p1
      obtain ⟨L, ho, h3, h4, h5⟩ := at'.rd i1 R1 h2
      rw [h1] at h3
      cases h3
      exact p1 (.ref _ :: ws) G1 H1 H1 i1 .refl ⟨⟨_, ws, rfl, ⟨_, ho, rfl, h4, h5⟩, r1.1⟩, rfl⟩ R1
/-! ## displays -/
def aLs (r : Rep α) : GR (List V) (List α) := ⟨fun K G vs as => A2 (r.rel K G) vs as, fun s h => h.mono fun _ _ => r.mono s⟩
def mCons (m : ε → Rs ε α) (n : ε → Rs ε (List α)) : ε → Rs ε (List α) := fun e => (m e).bind fun a e1 => (n e1).bind fun b e2 => .ok (a :: b) e2
theorem x_lnil {r : Rep α} : EX M R tNil (fz (aLs r)) (mC []) := fun F G H σ e i hR Q p => p [] G H H i .refl ⟨.nil, rfl⟩ hR
theorem x_lcons {t : TE} {tr : TA} {r : Rep α} {m : ε → Rs ε α} {n : ε → Rs ε (List α)} (h : EX M R t (fz r) m) (h' : EX M R tr (fz (aLs r)) n) : EX M R (tCons t tr) (fz (aLs r)) (mCons m n) := fun F G H σ e i hR Q p =>
  h F G H σ e i hR _ (p.bind fz_h fun v a e1 G1 H1 i1 s1 R1 r1 p1 => h' F G1 H1 σ e1 i1 R1 _ (p1.bind fz_h fun ws b e2 G2 H2 i2 s2 R2 r2 p2 =>
    p2 (v :: ws) G2 H2 H2 i2 .refl ⟨.cons (r.mono s2 r1.1) r2.1, rfl⟩ R2))
def aP2 (r : Rep α) (s : Rep β) : GR (List V) (α × β) := ⟨fun K G vs p => ∃ v w, vs = [v, w] ∧ r.rel K G v p.1 ∧ s.rel K G w p.2, fun u ⟨v, w, h1, h2, h3⟩ => ⟨v, w, h1, r.mono u h2, s.mono u h3⟩⟩
def aP3 (r : Rep α) (s : Rep β) (t : Rep γ) : GR (List V) (α × β × γ) := ⟨fun K G vs p => ∃ v w x, vs = [v, w, x] ∧ r.rel K G v p.1 ∧ s.rel K G w p.2.1 ∧ t.rel K G x p.2.2, fun u ⟨v, w, x, h1, h2, h3, h4⟩ => ⟨v, w, x, h1, r.mono u h2, s.mono u h3, t.mono u h4⟩⟩
theorem x_p2 {t u : TE} {r : Rep α} {s : Rep β} {m : ε → Rs ε α} {n : ε → Rs ε β} (h : EX M R t (fz r) m) (k : EX M R u (fz s) n) : EX M R (tCons t (tCons u tNil)) (fz (aP2 r s)) (mPair m n) := fun F G H σ e i hR Q p =>
  h F G H σ e i hR _ (p.bind fz_h fun v a e1 G1 H1 i1 s1 R1 r1 p1 => k F G1 H1 σ e1 i1 R1 _ (p1.bind fz_h fun w b e2 G2 H2 i2 s2 R2 r2 p2 =>
    p2 [v, w] G2 H2 H2 i2 .refl ⟨⟨v, w, rfl, r.mono s2 r1.1, r2.1⟩, rfl⟩ R2))
theorem x_p3 {t u x : TE} {r : Rep α} {s : Rep β} {r3 : Rep γ} {m : ε → Rs ε α} {n : ε → Rs ε β} {o : ε → Rs ε γ} (h : EX M R t (fz r) m) (k : EX M R u (fz s) n) (j : EX M R x (fz r3) o) : EX M R (tCons t (tCons u (tCons x tNil))) (fz (aP3 r s r3)) (mPair m (mPair n o)) := fun F G H σ e i hR Q p =>
  h F G H σ e i hR _ (p.bind fz_h fun v a e1 G1 H1 i1 s1 R1 r1 p1 => k F G1 H1 σ e1 i1 R1 _ (by
    unfold mPair at p1
    cases hn : n e1 with
    | bad => rw [hn] at p1; exact p1.elim
    | ex c e' => rw [hn] at p1; exact p1
    | ok b e2 =>
      rw [hn] at p1
      rintro w G2 H2 H2' i2 s2 ⟨r2, rfl⟩ R2
      refine j F G2 _ σ e2 i2 R2 _ ?_
      replace p1 := Post.up p1 s2
      revert p1
      simp only [Rs.bind_ok]
      cases o e2 with
      | bad => exact id
      | ex c e' => exact id
      | ok c e3 =>
        rintro p1 y G3 H3 H3' i3 s3 ⟨r3', rfl⟩ R3
        exact p1 [v, w, y] G3 _ _ i3 s3 ⟨⟨v, w, y, rfl, r.mono (s2.trans s3) r1.1, s.mono s3 r2, r3'⟩, rfl⟩ R3))
def nwL : List V → Hp → VK → Prop := fun xs H1 Q => xs.length ≤ sizeLine ∧ ∀ p, H1 p = none → Q (.ref p) (upd H1 p (.lst xs))
def nwT : List V → Hp → VK → Prop := fun xs H1 Q => xs.length ≤ sizeLine ∧ ∀ p, H1 p = none → Q (.ref p) (upd H1 p (.tup xs))
theorem v_lst {K : PySem.W.Frag} {r : Rep α} : VF K nwL (ir (aLs r)) (oL r) szOk := fun G H v a b Q s hr hg k => by
  obtain ⟨hz, rfl⟩ := szOk_some hg
  have hl := A2.length (show A2 (r.rel K G) v b from hr)
  exact ⟨by rw [hl, sizeLine_eq]; omega, fun p hp => k p _ G _ (.own s hp) hp (s.no hp) upd_same ⟨v, rfl, hr⟩⟩
theorem v_tup {K : PySem.W.Frag} {r : Rep α} : VR K nwT (ir (aLs r)) (rT r) szOk := fun G H v a b Q s hr hg k => by
  obtain ⟨hz, rfl⟩ := szOk_some hg
  have hl := A2.length (show A2 (r.rel K G) v b from hr)
  exact ⟨by rw [hl, sizeLine_eq]; omega, fun p hp => k (.ref p) _ _ (.new s hp) ⟨p, _, rfl, upd_same, v, rfl, (show A2 (r.rel K G) v b from hr).mono fun _ _ => r.mono (sub_upd (s.no hp))⟩⟩
theorem v_tup2 {K : PySem.W.Frag} {r : Rep α} {r' : Rep β} : VR K nwT (ir (aP2 r r')) (rT2 r r') some := fun G H v a b Q s hr hg k => by
  cases hg
  obtain ⟨x, y, rfl, h1, h2⟩ := hr
  exact ⟨by rw [sizeLine_eq]; simp only [List.length_cons, List.length_nil]; omega, fun p hp => k (.ref p) _ _ (.new s hp) ⟨p, _, rfl, upd_same, x, y, rfl, r.mono (sub_upd (s.no hp)) h1, r'.mono (sub_upd (s.no hp)) h2⟩⟩
theorem v_tup3 {K : PySem.W.Frag} {r : Rep α} {r' : Rep β} {r'' : Rep γ} : VR K nwT (ir (aP3 r r' r'')) (rT3 r r' r'') some := fun G H v a b Q s hr hg k => by
  cases hg
  obtain ⟨x, y, z, rfl, h1, h2, h3⟩ := hr
  exact ⟨by rw [sizeLine_eq]; simp only [List.length_cons, List.length_nil]; omega, fun p hp => k (.ref p) _ _ (.new s hp) ⟨p, _, rfl, upd_same, x, y, z, rfl, r.mono (sub_upd (s.no hp)) h1, r'.mono (sub_upd (s.no hp)) h2, r''.mono (sub_upd (s.no hp)) h3⟩⟩
theorem v_lst2 {K : PySem.W.Frag} {r : Rep α} {r' : Rep β} : VF K nwL (ir (aP2 r r')) (oL2 r r') some := fun G H v a b Q s hr hg k => by
  cases hg
  obtain ⟨x, y, rfl, h1, h2⟩ := hr
  exact ⟨by rw [sizeLine_eq]; simp only [List.length_cons, List.length_nil]; omega, fun p hp => k p _ G _ (.own s hp) hp (s.no hp) upd_same ⟨x, y, rfl, h1, h2⟩⟩
theorem v_lst3 {K : PySem.W.Frag} {r : Rep α} {r' : Rep β} {r'' : Rep γ} : VF K nwL (ir (aP3 r r' r'')) (oL3 r r' r'') some := fun G H v a b Q s hr hg k => by
  cases hg
  obtain ⟨x, y, z, rfl, h1, h2, h3⟩ := hr
  exact ⟨by rw [sizeLine_eq]; simp only [List.length_cons, List.length_nil]; omega, fun p hp => k p _ G _ (.own s hp) hp (s.no hp) upd_same ⟨x, y, z, rfl, h1, h2, h3⟩⟩
theorem x_lst {t : TA} {r : Rep α} {m : ε → Rs ε (List α)} (h : EX M R t (fz (aLs r)) m) : EX M R (tLst t) (fs (oL r)) (mUn szOk m) := x_unF (t := t) (T := nwL) v_lst h
theorem x_tup {t : TA} {r : Rep α} {m : ε → Rs ε (List α)} (h : EX M R t (fz (aLs r)) m) : EX M R (tTup t) (fz (rT r)) (mUn szOk m) := x_un (t := t) (T := nwT) v_tup h
theorem x_tup2 {t : TA} {r : Rep α} {r' : Rep β} {m : ε → Rs ε (α × β)} (h : EX M R t (fz (aP2 r r')) m) : EX M R (tTup t) (fz (rT2 r r')) (mUn some m) := x_un (t := t) (T := nwT) v_tup2 h
theorem x_tup3 {t : TA} {r : Rep α} {r' : Rep β} {r'' : Rep γ} {m : ε → Rs ε (α × β × γ)} (h : EX M R t (fz (aP3 r r' r'')) m) : EX M R (tTup t) (fz (rT3 r r' r'')) (mUn some m) := x_un (t := t) (T := nwT) v_tup3 h
theorem x_lst2 {t : TA} {r : Rep α} {r' : Rep β} {m : ε → Rs ε (α × β)} (h : EX M R t (fz (aP2 r r')) m) : EX M R (tLst t) (fs (oL2 r r')) (mUn some m) := x_unF (t := t) (T := nwL) v_lst2 h
theorem x_lst3 {t : TA} {r : Rep α} {r' : Rep β} {r'' : Rep γ} {m : ε → Rs ε (α × β × γ)} (h : EX M R t (fz (aP3 r r' r'')) m) : EX M R (tLst t) (fs (oL3 r r' r'')) (mUn some m) := x_unF (t := t) (T := nwL) v_lst3 h
/-! ## statements -/
def PostS (M : Mx) (R : ERep ε) (rr : RS V ρ) (F : Frm) (G : Hp) (D : Ends) : So ε ρ → Prop
  | .nx e' => ∀ σ' G' H', IV F G' H' → Sub G G' → R.rel M.K F G' H' σ' e' → D.nx σ' H'
  | .bk e' => ∀ σ' G' H', IV F G' H' → Sub G G' → R.rel M.K F G' H' σ' e' → D.bk σ' H'
  | .ct e' => ∀ σ' G' H', IV F G' H' → Sub G G' → R.rel M.K F G' H' σ' e' → D.ct σ' H'
  | .rt a e' => ∀ v σ' G' H' H1, IV F G' H' → Sub G G' → rr.rel M.K F G' H' v a H1 → R.rel M.K F G' H1 σ' e' → D.rt v H'
  | .ex c e' => ∀ cls d σ' G' H', IV F G' H' → Sub G G' → R.rel M.K F G' H' σ' e' → xr M G' c cls d → M.E cls d H'
  | .bad => False
def SX (M : Mx) (R : ERep ε) (rr : RS V ρ) (t : TS) (m : ε → So ε ρ) : Prop := ∀ F G H σ e, IV F G H → R.rel M.K F G H σ e → ∀ D, PostS M R rr F G D (m e) → t D σ H
variable {rr : RS V ρ} {D D' : Ends}
theorem PostS.up {x : So ε ρ} (h : PostS M R rr F G D x) (s : Sub G G1) : PostS M R rr F G1 D x := by
  cases x with
  | nx e => exact fun σ' G' H' i z => h σ' G' H' i (s.trans z)
  | bk e => exact fun σ' G' H' i z => h σ' G' H' i (s.trans z)
  | ct e => exact fun σ' G' H' i z => h σ' G' H' i (s.trans z)
  | rt a e => exact fun v σ' G' H' H1 i z => h v σ' G' H' H1 i (s.trans z)
  | ex c e => exact fun cls d σ' G' H' i z => h cls d σ' G' H' i (s.trans z)
  | bad => exact h
/-- an expression, then what is done with it -/
theorem PostS.so {rs : RS ν α} {Q : ν → Hp → Prop} {x : Rs ε α} {f : α → ε → So ε ρ} (h : PostS M R rr F G D (x.so f))
    (k : ∀ v a e1 G1 H1 H1', IV F G1 H1 → Sub G G1 → rs.rel M.K F G1 H1 v a H1' → R.rel M.K F G1 H1' σ e1 → PostS M R rr F G1 D (f a e1) → Q v H1) : Post M R F G σ rs Q x := by
  cases x with
  | ok a e => exact fun v G' H' H1 i s hr hR => k v a e G' H' H1 i s hr hR (PostS.up h s)
  | ex c e => exact fun cls d G' H' i s hR hx => h cls d σ G' H' i s hR hx
  | bad => exact h
def mSeq (m n : ε → So ε ρ) : ε → So ε ρ := fun e => match m e with
  | .nx e1 => n e1 | .rt a e1 => .rt a e1 | .bk e1 => .bk e1 | .ct e1 => .ct e1 | .ex c e1 => .ex c e1 | .bad => .bad
def mNext : ε → So ε ρ := .nx
def mBrk : ε → So ε ρ := .bk
def mCt : ε → So ε ρ := .ct
def mRet (m : ε → Rs ε ρ) : ε → So ε ρ := fun e => (m e).so .rt
def mDrop (m : ε → Rs ε α) : ε → So ε ρ := fun e => (m e).so fun _ e1 => .nx e1
def mIfS (c : ε → Rs ε Bool) (m n : ε → So ε ρ) : ε → So ε ρ := fun e => (c e).so fun b e1 => if b = true then m e1 else n e1
/-- names that are done with -/
def mKill (k : ε → ε) (m : ε → So ε ρ) : ε → So ε ρ := fun e => match m e with
  | .nx e1 => .nx (k e1) | .rt a e1 => .rt a e1 | .bk e1 => .bk (k e1) | .ct e1 => .ct (k e1) | .ex c e1 => .ex c e1 | .bad => .bad
structure Kl (R : ERep ε) (k : ε → ε) : Prop where
  kl : ∀ {K F G H σ e}, R.rel K F G H σ e → R.rel K F G H σ (k e)
theorem Kl.fr {n : Nat} {r : Rep α} {l : Ln ε α} (a : FrAt R n r l) : Kl R (l.put none) := ⟨a.kl⟩
theorem Kl.ow {n : Nat} {own : Frm → Addr → Prop} {q : ORep α} {l : Ln ε α} (a : OwAt R n own q l) : Kl R (l.put none) := ⟨a.kl⟩
theorem Kl.and {k k' : ε → ε} (a : Kl R k) (b : Kl R k') : Kl R (fun e => k (k' e)) := ⟨fun h => a.kl (b.kl h)⟩
theorem s_kill {t : TS} {m : ε → So ε ρ} {k : ε → ε} (a : Kl R k) (h : SX M R rr t m) : SX M R rr t (mKill k m) := fun F G H σ e i hR D p => by
  refine h F G H σ e i hR D ?_
  unfold mKill at p
  revert p
  cases m e with
  | nx e1 => exact fun p σ' G' H' i1 s1 R1 => p σ' G' H' i1 s1 (a.kl R1)
  | bk e1 => exact fun p σ' G' H' i1 s1 R1 => p σ' G' H' i1 s1 (a.kl R1)
  | ct e1 => exact fun p σ' G' H' i1 s1 R1 => p σ' G' H' i1 s1 (a.kl R1)
  | rt a e1 => exact id
  | ex c e1 => exact id
  | bad => exact id
theorem s_seq {t u : TS} {m n : ε → So ε ρ} (h : SX M R rr t m) (k : SX M R rr u n) : SX M R rr (tSeq t u) (mSeq m n) := fun F G H σ e i hR D p => by
  refine h F G H σ e i hR _ ?_
  unfold mSeq at p
  revert p
  cases m e with
  | nx e1 => exact fun p σ' G' H' i1 s1 R1 => k F G' H' σ' e1 i1 R1 D (p.up s1)
  | bk e1 => exact id
  | ct e1 => exact id
  | rt a e1 => exact id
  | ex c e1 => exact id
  | bad => exact id
theorem s_cut {t u : TS} {m n : ε → So ε ρ} (h : SX M R rr t m) (k : SX M R rr u n) : SX M R rr (tCut t u) (mSeq m n) := fun F G H σ e i hR D p => by
  refine ⟨fun σ' H' => u D σ' H', ?_, fun _ _ h => h⟩
  exact s_seq h k F G H σ e i hR D p
def mCut (m n : ε → So ε ρ) : ε → So ε ρ := mSeq m n
theorem s_cutC {t u : TS} {m n : ε → So ε ρ} (h : SX M R rr t m) (k : SX M R rr u n) : SX M R rr (tCut t u) (mCut m n) := s_cut h k
theorem s_seqC {t u : TS} {m n : ε → So ε ρ} (h : SX M R rr t m) (k : SX M R rr u n) : SX M R rr (tSeq t u) (mCut m n) := s_seq h k
theorem s_next : SX M R rr tNext mNext := fun F G H σ e i hR D p => p σ G H i .refl hR
theorem s_break : SX M R rr tBreak mBrk := fun F G H σ e i hR D p => p σ G H i .refl hR
theorem s_cont : SX M R rr tCont mCt := fun F G H σ e i hR D p => p σ G H i .refl hR
theorem s_ret {t : TE} {m : ε → Rs ε ρ} (h : EX M R t rr m) : SX M R rr (tRet t) (mRet m) := fun F G H σ e i hR D p =>
  h F G H σ e i hR _ (p.so fun v a e1 G1 H1 H1' i1 s1 hr R1 p1 => p1 v σ G1 H1 H1' i1 .refl hr R1)
theorem s_retN {a : ρ} (h : ∀ K F G H, rr.rel K F G H .non a H) : SX M R rr tRetN (mRet (mC a)) := fun F G H σ e i hR D p => p .non σ G H H i .refl (h _ _ _ _) hR
theorem s_drop {t : TE} {r : Rep α} {m : ε → Rs ε α} (h : EX M R t (fz r) m) : SX M R rr (tDrop t) (mDrop m) := fun F G H σ e i hR D p =>
  h F G H σ e i hR _ (p.so fun v a e1 G1 H1 H1' i1 s1 hr R1 p1 => p1 σ G1 H1 i1 .refl (hr.2 ▸ R1))
theorem s_if {c : TT} {t u : TS} {mc : ε → Rs ε Bool} {m n : ε → So ε ρ} (hc : EX M R c (fz bR) mc) (h : SX M R rr t m) (k : SX M R rr u n) : SX M R rr (tIfS c t u) (mIfS mc m n) := fun F G H σ e i hR D p =>
  hc F G H σ e i hR _ (p.so fun v a e1 G1 H1 H1' i1 s1 hr R1 p1 => by
    have e : v = a := hr.1
    subst e
    rw [hr.2] at R1
    cases v with
    | true => exact h F G1 H1 σ e1 i1 R1 D p1
    | false => exact k F G1 H1 σ e1 i1 R1 D p1)
def mIfB (c : ε → Rs ε Bool) (m n : ε → So ε ρ) : ε → So ε ρ := mIfS c m n
theorem s_ifB {c : TT} {t u : TS} {mc : ε → Rs ε Bool} {m n : ε → So ε ρ} (hc : EX M R c (fz bR) mc) (h : SX M R rr t m) (k : SX M R rr u n) : SX M R rr (tIfS c t u) (mIfB mc m n) := s_if hc h k
/-! ## targets -/
/-- a target: what is stored to it, put to the mirror's names -/
def TGX (M : Mx) (R : ERep ε) (g : TG) (i : IR V α) (pt : α → ε → Rs ε Unit) : Prop := ∀ F G H σ e v a, IV F G H → R.rel M.K F G H σ e → i M.K G H v a → ∀ Q, 
  (∃ e', pt a e = .ok () e' ∧ ∀ σ' G' H', IV F G' H' → Sub G G' → R.rel M.K F G' H' σ' e' → Q σ' H') → g v σ H Q
def ptName (l : Ln ε α) : α → ε → Rs ε Unit := fun a e => .ok () (l.put (some a) e)
theorem g_name {n : Nat} {r : Rep α} {l : Ln ε α} (at' : FrAt R n r l) : TGX M R (gName n) (ir r) (ptName l) := fun F G H σ e v a i hR hr Q ⟨e', h1, h2⟩ => by
  cases h1
  exact h2 _ G H i .refl (at'.wr hR hr)
def mAsg (m : ε → Rs ε α) (pt : α → ε → Rs ε Unit) : ε → So ε ρ := fun e => (m e).so fun a e1 => (pt a e1).so fun _ e2 => .nx e2
theorem s_asg {t : TE} {g : TG} {j : IR V α} {m : ε → Rs ε α} {pt : α → ε → Rs ε Unit} (nx : ∀ a e c e', pt a e ≠ .ex c e') (h : EX M R t (is j) m) (hg : TGX M R g j pt) : SX M R rr (tAsg t g) (mAsg m pt) := fun F G H σ e i hR D p =>
  h F G H σ e i hR _ (p.so fun v a e1 G1 H1 H1' i1 s1 hr R1 p1 => by
    rw [hr.2] at R1
    refine hg F G1 H1 σ e1 v a i1 R1 hr.1 _ ?_
    revert p1
    cases hp : pt a e1 with
    | ok u e2 => exact fun p1 => ⟨e2, rfl, fun σ' G' H' i2 s2 R2 => p1 σ' G' H' i2 s2 R2⟩
    | ex c e2 => exact absurd hp (nx _ _ _ _)
    | bad => exact fun p1 => p1.elim)
/-- x = e, frozen; x = e, an own new object -/
def mSet (l : Ln ε α) (m : ε → Rs ε α) : ε → So ε ρ := fun e => (m e).so fun a e1 => .nx (l.put (some a) e1)
theorem s_set {n : Nat} {t : TE} {r : Rep α} {l : Ln ε α} {m : ε → Rs ε α} (at' : FrAt R n r l) (h : EX M R t (fz r) m) : SX M R rr (tAsg t (gName n)) (mSet l m) := fun F G H σ e i hR D p =>
  h F G H σ e i hR _ (p.so fun v a e1 G1 H1 H1' i1 s1 hr R1 p1 => p1 _ G1 H1 i1 .refl (at'.wr (hr.2 ▸ R1) hr.1))
theorem s_setO {n : Nat} {t : TE} {q : ORep α} {l : Ln ε α} {m : ε → Rs ε α} (at' : OwAt R n ownN q l) (h : EX M R t (fs q) m) : SX M R rr (tAsg t (gName n)) (mSet l m) := fun F G H σ e i hR D p =>
  h F G H σ e i hR _ (p.so fun v a e1 G1 H1 H1' i1 s1 hr R1 p1 => by
    obtain ⟨L, ho, rfl, h1, h2, h3, h4, rfl⟩ := hr
    exact p1 _ G1 H1 i1 .refl (at'.wr R1 h1 h2 h3 h4))
end
section
variable {ν ν' α β γ ε ρ : Type} {M : Mx} {R : ERep ε} {F : Frm} {G G1 H : Hp} {σ : Sg} {rr : RS V ρ} {D : Ends}
/-! ## operators, built-ins -/
section
variable {ta tb : TE} {r : Rep α} {i1 : IR V α} {i2 : IR V β} {r' : Rep γ} {q' : ORep γ} {g : α → β → Option γ} {m : ε → Rs ε α} {n : ε → Rs ε β} {T : R2}
theorem x_tOp (vr : VR2 M.K T i1 i2 r' g) (cv : Cv r i1) (h : EX M R ta (fz r) m) (k : EX M R tb (is i2) n) : EX M R (tOp T ta tb) (fz r') (mOp g m n) := x_op (t := ta) (u := tb) (T := T) vr cv h k
theorem x_tOpF (vr : VF2 M.K T i1 i2 q' g) (cv : Cv r i1) (h : EX M R ta (fz r) m) (k : EX M R tb (is i2) n) : EX M R (tOp T ta tb) (fs q') (mOp g m n) := x_opF (t := ta) (u := tb) (T := T) vr cv h k
theorem x_tOpL {k : Nat} {l : Ln ε α} {q : ORep α} (vr : VR2 M.K T (rd q) i2 r' g) (at' : Late R k q l) (h : EX M R tb (is i2) n) : EX M R (tOp T (tVar k) tb) (fz r') (mOpL g l n) := x_opL (u := tb) (T := T) vr at' h
theorem x_tOpLF {k : Nat} {l : Ln ε α} {q : ORep α} (vr : VF2 M.K T (rd q) i2 q' g) (at' : Late R k q l) (h : EX M R tb (is i2) n) : EX M R (tOp T (tVar k) tb) (fs q') (mOpL g l n) := x_opLF (u := tb) (T := T) vr at' h
end
theorem x_tUn {ta : TE} {T : V → Hp → VK → Prop} {i1 : IR V α} {r' : Rep β} {g : α → Option β} {m : ε → Rs ε α} (vr : VR M.K T i1 r' g) (h : EX M R ta (is i1) m) : EX M R (tUn T ta) (fz r') (mUn g m) := x_un (t := ta) (T := T) vr h
theorem x_tCB {t : TA} {T : List V → Hp → VK → Prop} {i1 : IR (List V) α} {r' : Rep β} {g : α → Option β} {m : ε → Rs ε α} (vr : VR M.K T i1 r' g) (h : EX M R t (is i1) m) : EX M R (tCB T t) (fz r') (mUn g m) := x_un (t := t) (T := T) vr h
theorem x_tCBF {t : TA} {T : List V → Hp → VK → Prop} {i1 : IR (List V) α} {q' : ORep β} {g : α → Option β} {m : ε → Rs ε α} (vr : VF M.K T i1 q' g) (h : EX M R t (is i1) m) : EX M R (tCB T t) (fs q') (mUn g m) := x_unF (t := t) (T := T) vr h
/-! ## slices -/
def mPart (m : ε → Rs ε Int) : ε → Rs ε (Option Int) := fun e => (m e).bind fun a e1 => .ok (some a) e1
theorem x_noPart : EX M R tNoPart (fz ioR) (mC none) := fun F G H σ e i hR Q p => p none G H H i .refl ⟨rfl, rfl⟩ hR
theorem x_part {t : TE} {m : ε → Rs ε Int} (h : EX M R t (fz rI) m) : EX M R (tPart t) (fz ioR) (mPart m) := fun F G H σ e i hR Q p =>
  h F G H σ e i hR _ (p.bind fz_h fun v a e1 G1 H1 i1 s1 R1 r1 p1 => ⟨a, r1.1, p1 (some a) G1 H1 H1 i1 .refl ⟨rfl, rfl⟩ R1⟩)
def mSl (g : α → Option Int → Option Int → Option β) (m : ε → Rs ε α) (lo hi : ε → Rs ε (Option Int)) : ε → Rs ε β := fun e => (m e).bind fun a e1 => (lo e1).bind fun l e2 => (hi e2).bind fun u e3 => .of (g a l u) e3
/-- a slice, frozen or new -/
def VSl (K : PySem.W.Frag) (T : V → Option Int → Option Int → Hp → VK → Prop) (i : IR V α) (r' : Rep β) (g : α → Option Int → Option Int → Option β) : Prop := ∀ l u, VR K (fun x H Q => T x l u H Q) i r' fun a => g a l u
def VSlF (K : PySem.W.Frag) (T : V → Option Int → Option Int → Hp → VK → Prop) (i : IR V α) (q' : ORep β) (g : α → Option Int → Option Int → Option β) : Prop := ∀ l u, VF K (fun x H Q => T x l u H Q) i q' fun a => g a l u
theorem x_sl {T : V → Option Int → Option Int → Hp → VK → Prop} {t : TE} {tl th : TO} {r : Rep α} {i' : IR V α} {r' : Rep β} {g : α → Option Int → Option Int → Option β} {m : ε → Rs ε α} {lo hi : ε → Rs ε (Option Int)}
    (vr : VSl M.K T i' r' g) (cv : Cv r i') (h : EX M R t (fz r) m) (hl : EX M R tl (fz ioR) lo) (hh : EX M R th (fz ioR) hi) : EX M R (tSl T t tl th) (fz r') (mSl g m lo hi) := fun F G H σ e i hR Q p =>
  h F G H σ e i hR _ (p.bind fz_h fun v a e1 G1 H1 i1 s1 R1 r1 p1 => hl F G1 H1 σ e1 i1 R1 _ (p1.bind fz_h fun l' l e2 G2 H2 i2 s2 R2 r2 p2 => hh F G2 H2 σ e2 i2 R2 _ (p2.bind fz_h fun u' u e3 G3 H3 i3 s3 R3 r3 p3 => by
    obtain rfl : l' = l := r2.1
    obtain rfl : u' = u := r3.1
    obtain ⟨b, hb, p4⟩ := of_some p3
    exact vr l' u' G3 H3 v a b Q i3.gh (cv _ _ _ _ _ i3.gh (r.mono (s2.trans s3) r1.1)) hb (p4.fin i3 R3))))
theorem x_slF {T : V → Option Int → Option Int → Hp → VK → Prop} {t : TE} {tl th : TO} {r : Rep α} {i' : IR V α} {q' : ORep β} {g : α → Option Int → Option Int → Option β} {m : ε → Rs ε α} {lo hi : ε → Rs ε (Option Int)}
    (vr : VSlF M.K T i' q' g) (cv : Cv r i') (h : EX M R t (fz r) m) (hl : EX M R tl (fz ioR) lo) (hh : EX M R th (fz ioR) hi) : EX M R (tSl T t tl th) (fs q') (mSl g m lo hi) := fun F G H σ e i hR Q p =>
  h F G H σ e i hR _ (p.bind fz_h fun v a e1 G1 H1 i1 s1 R1 r1 p1 => hl F G1 H1 σ e1 i1 R1 _ (p1.bind fz_h fun l' l e2 G2 H2 i2 s2 R2 r2 p2 => hh F G2 H2 σ e2 i2 R2 _ (p2.bind fz_h fun u' u e3 G3 H3 i3 s3 R3 r3 p3 => by
    obtain rfl : l' = l := r2.1
    obtain rfl : u' = u := r3.1
    obtain ⟨b, hb, p4⟩ := of_some p3
    exact vr l' u' G3 H3 v a b Q i3.gh (cv _ _ _ _ _ i3.gh (r.mono (s2.trans s3) r1.1)) hb (p4.finF i3 R3))))
/-- the slice of a name's object -/
def mSlL (g : α → Option Int → Option Int → Option β) (l : Ln ε α) (lo hi : ε → Rs ε (Option Int)) : ε → Rs ε β := fun e => match l.get e with
  | none => .bad
  | some _ => (lo e).bind fun l1 e2 => (hi e2).bind fun u e3 => (mVar l e3).bind fun a e4 => .of (g a l1 u) e4
theorem x_slLF {n : Nat} {ln : Ln ε α} {q : ORep α} {T : V → Option Int → Option Int → Hp → VK → Prop} {tl th : TO} {q' : ORep β} {g : α → Option Int → Option Int → Option β} {lo hi : ε → Rs ε (Option Int)}
    (vr : VSlF M.K T (rd q) q' g) (at' : Late R n q ln) (hl : EX M R tl (fz ioR) lo) (hh : EX M R th (fz ioR) hi) : EX M R (tSl T (tVar n) tl th) (fs q') (mSlL g ln lo hi) := fun F G H σ e i hR Q p => by
  unfold mSlL at p
  cases h0 : ln.get e with
  | none => rw [h0] at p; exact p.elim
  | some a0 =>
    rw [h0] at p
    obtain ⟨L0, ho0, h1, _⟩ := at'.rd i hR h0
    refine ⟨_, h1, hl F G H σ e i hR _ (p.bind fz_h fun l' l e2 G2 H2 i2 s2 R2 r2 p2 => hh F G2 H2 σ e2 i2 R2 _ (p2.bind fz_h fun u' u e3 G3 H3 i3 s3 R3 r3 p3 => ?_))⟩
    obtain rfl : l' = l := r2.1
    obtain rfl : u' = u := r3.1
    unfold mVar at p3
    cases h2 : ln.get e3 with
    | none => rw [h2] at p3; exact p3.elim
    | some a1 =>
      rw [h2] at p3
      obtain ⟨L, ho, h3, h4, h5⟩ := at'.rd i3 R3 h2
      rw [h1] at h3
      cases h3
      obtain ⟨c, hc, p4⟩ := of_some p3
      exact vr l' u' G3 H3 _ a1 c Q i3.gh ⟨_, ho, rfl, h4, h5⟩ hc (p4.finF i3 R3)
/-! ## targets of names -/
theorem wipe_out (x : Option V) (n : Nat) : ∀ (σ : Sg) (vs : List Nat), wipe (σ.set n x) vs = if n ∈ vs then wipe σ vs else (wipe σ vs).set n x
  | σ, [] => by simp [wipe]
  | σ, v :: vs => by
    unfold wipe
    rw [wipe_out x n σ vs]
    by_cases h : n ∈ vs
    · simp [h]
    · by_cases e : n = v
      · subst e
        simp [h, List.set_set]
      · rw [if_neg h, if_neg (by simp [e, h])]
        exact List.set_comm _ _ e
theorem wipe_in {x : Option V} {n : Nat} {σ : Sg} {vs : List Nat} (h : n ∈ vs) : wipe (σ.set n x) vs = wipe σ vs := by rw [wipe_out, if_pos h]
def TGN (M : Mx) (R : ERep ε) (g : TG) (r : Rep α) (vs : List Nat) (pt : α → ε → ε) : Prop := ∀ F G H σ e v a, IV F G H → R.rel M.K F G H σ e → r.rel M.K G v a → ∀ Q, (∀ σ', wipe σ' vs = wipe σ vs → R.rel M.K F G H σ' (pt a e) → Q σ' H) → g v σ H Q
def pN (l : Ln ε α) : α → ε → ε := fun a e => l.put (some a) e
theorem n_name {n : Nat} {r : Rep α} {l : Ln ε α} {vs : List Nat} (at' : FrAt R n r l) (hn : n ∈ vs) : TGN M R (gName n) r vs (pN l) := fun F G H σ e v a i hR hr Q k => k _ (wipe_in hn) (at'.wr hR hr)
def p2 (p : α → ε → ε) (p' : β → ε → ε) : α × β → ε → ε := fun ab e => p' ab.2 (p ab.1 e)
def p3 (p : α → ε → ε) (p' : β → ε → ε) (p'' : γ → ε → ε) : α × β × γ → ε → ε := fun ab e => p'' ab.2.2 (p' ab.2.1 (p ab.1 e))
theorem sqt_of {K : PySem.W.Frag} {G H : Hp} {L : Addr} {vs : List V} (s : Sub G H) (h : G L = some (.tup vs)) : SqT K H L vs := .inl (.inl (s _ _ h))
theorem sql_of {K : PySem.W.Frag} {G H : Hp} {L : Addr} {vs : List V} (s : Sub G H) (h : G L = some (.lst vs)) : SqL K H L vs := .inl (.inl (s _ _ h))
theorem n_tup2 {g g' : TG} {r : Rep α} {r' : Rep β} {vs : List Nat} {p : α → ε → ε} {p' : β → ε → ε} (h : TGN M R g r vs p) (h' : TGN M R g' r' vs p') : TGN M R (gTup M.K 2 (gCons g (gCons g' gNil))) (rT2 r r') vs (p2 p p') := fun F G H σ e v a i hR hr Q k => by
  obtain ⟨L, ho, rfl, hg, x, y, rfl, hx, hy⟩ := hr
  refine ⟨L, _, rfl, sqt_of i.gh hg, rfl, x, _, rfl, h F G H σ e x a.1 i hR hx _ fun σ1 w1 R1 => ⟨y, _, rfl, h' F G H σ1 _ y a.2 i R1 hy _ fun σ2 w2 R2 => ⟨rfl, k σ2 (w2.trans w1) R2⟩⟩⟩
theorem n_tup3 {g g' g'' : TG} {r : Rep α} {r' : Rep β} {r'' : Rep γ} {vs : List Nat} {p : α → ε → ε} {p' : β → ε → ε} {p'' : γ → ε → ε} (h : TGN M R g r vs p) (h' : TGN M R g' r' vs p') (h'' : TGN M R g'' r'' vs p'') :
    TGN M R (gTup M.K 3 (gCons g (gCons g' (gCons g'' gNil)))) (rT3 r r' r'') vs (p3 p p' p'') := fun F G H σ e v a i hR hr Q k => by
  obtain ⟨L, ho, rfl, hg, x, y, z, rfl, hx, hy, hz⟩ := hr
  refine ⟨L, _, rfl, sqt_of i.gh hg, rfl, x, _, rfl, h F G H σ e x a.1 i hR hx _ fun σ1 w1 R1 => ⟨y, _, rfl, h' F G H σ1 _ y a.2.1 i R1 hy _ fun σ2 w2 R2 => ⟨z, _, rfl, h'' F G H σ2 _ z a.2.2 i R2 hz _ fun σ3 w3 R3 => ⟨rfl, k σ3 (w3.trans (w2.trans w1)) R3⟩⟩⟩⟩
/-- a, b = e -/
def mAsgN (m : ε → Rs ε α) (pt : α → ε → ε) : ε → So ε ρ := fun e => (m e).so fun a e1 => .nx (pt a e1)
theorem s_asgN {t : TE} {g : TG} {r : Rep α} {vs : List Nat} {m : ε → Rs ε α} {pt : α → ε → ε} (h : EX M R t (fz r) m) (hg : TGN M R g r vs pt) : SX M R rr (tAsg t g) (mAsgN m pt) := fun F G H σ e i hR D p =>
  h F G H σ e i hR _ (p.so fun v a e1 G1 H1 H1' i1 s1 hr R1 p1 => by
    rw [hr.2] at R1
    exact hg F G1 H1 σ e1 v a i1 R1 hr.1 _ fun σ' _ R2 => p1 σ' G1 H1 i1 .refl R2)
/-! ## a comprehension's own names -/
structure Wp (R : ERep ε) (vs : List Nat) (kill : ε → ε) (rst : ε → ε → ε) : Prop where
  kl : ∀ {K F G H σ e}, R.rel K F G H σ e → R.rel K F G H (wipe σ vs) (kill e)
  rs : ∀ {K F G H G' H' σ e e'}, R.rel K F G H σ e → Sub G G' → R.rel K F G' H' (wipe σ vs) e' → R.rel K F G' H' σ (rst e e')
theorem Wp.nil : Wp R [] id (fun _ e' => e') := ⟨fun h => h, fun _ _ h => h⟩
theorem Wp.cons {n : Nat} {r : Rep α} {l : Ln ε α} {vs : List Nat} {kill : ε → ε} {rst : ε → ε → ε} (at' : FrAt R n r l) (w : Wp R vs kill rst) : Wp R (n :: vs) (fun e => l.put none (kill e)) (fun e e' => rst e (l.put (l.get (kill e)) e')) :=
  ⟨fun h => at'.wn (w.kl h), fun h s h' => w.rs h s (at'.rs (w.kl h) s h')⟩
/-! ## what is walked -/
def Walk (K : PySem.W.Frag) (J : It) (F : Frm) (G : Hp) (r : Rep α) (xs : List α) : Prop := ∀ i G' H', IV F G' H' → Sub G G' →
  (xs.length ≤ i → J.stop i H') ∧ ∀ x, xs[i]? = some x → J.go i H' ∧ ∀ v H'', J.yld i H' v H'' → ∃ G'', Stp G' H' G'' H'' ∧ r.rel K G'' v x
def walkS (r : Rep α) : RS It (List α) := ⟨fun K F G H J xs H1 => Walk K J F G r xs ∧ H1 = H⟩
theorem x_iL {t : TE} {r : Rep α} {m : ε → Rs ε (List α)} (h : EX M R t (fz (rL r)) m) : EX M R (iList M.K t) (walkS r) m := fun F G H σ e i hR Q p => by
  refine h F G H σ e i hR _ ?_
  revert p
  cases m e with
  | ok a e' =>
    rintro p v G' H' H1 i1 s1 ⟨⟨L, ho, rfl, hg, vs, rfl, ha⟩, rfl⟩ R1
    refine ⟨L, rfl, ⟨vs, sql_of i1.gh hg⟩, p _ G' _ _ i1 s1 ⟨fun k G2 H2 i2 s2 => ?_, rfl⟩ R1⟩
    have q : SqL M.K H2 L vs := sql_of i2.gh (s2 _ _ hg)
    refine ⟨fun hk => ⟨vs, q, by rw [ha.length]; exact hk⟩, fun x hx => ?_⟩
    obtain ⟨v, hv, hr⟩ := ha.get hx
    refine ⟨⟨vs, v, q, hv⟩, fun v' H'' hy => ?_⟩
    obtain ⟨rfl, hy⟩ := hy
    have := hy vs q
    rw [hv] at this
    cases this
    exact ⟨G2, .refl i2.gh, r.mono s2 hr⟩
  | ex c e' => exact id
  | bad => exact id
theorem x_iT {t : TE} {r : Rep α} {m : ε → Rs ε (List α)} (h : EX M R t (fz (rT r)) m) : EX M R (iTup M.K t) (walkS r) m := fun F G H σ e i hR Q p => by
  refine h F G H σ e i hR _ ?_
  revert p
  cases m e with
  | ok a e' =>
    rintro p v G' H' H1 i1 s1 ⟨⟨L, ho, rfl, hg, vs, rfl, ha⟩, rfl⟩ R1
    refine ⟨L, rfl, ⟨vs, sqt_of i1.gh hg⟩, p _ G' _ _ i1 s1 ⟨fun k G2 H2 i2 s2 => ?_, rfl⟩ R1⟩
    have q : SqT M.K H2 L vs := sqt_of i2.gh (s2 _ _ hg)
    refine ⟨fun hk => ⟨vs, q, by rw [ha.length]; exact hk⟩, fun x hx => ?_⟩
    obtain ⟨v, hv, hr⟩ := ha.get hx
    refine ⟨⟨vs, v, q, hv⟩, fun v' H'' hy => ?_⟩
    obtain ⟨rfl, hy⟩ := hy
    have := hy vs q
    rw [hv] at this
    cases this
    exact ⟨G2, .refl i2.gh, r.mono s2 hr⟩
  | ex c e' => exact id
  | bad => exact id
/-- the script -/
theorem x_iS {t : TE} {m : ε → Rs ε (List Int)} (h : EX M R t (fz rScr) m) : EX M R (iList M.K t) (walkS rI) m := fun F G H σ e i hR Q p => by
  refine h F G H σ e i hR _ ?_
  revert p
  cases m e with
  | ok a e' =>
    rintro p v G' H' H1 i1 s1 ⟨hS, rfl⟩ R1
    obtain ⟨L, rfl, _⟩ := id hS
    have sq : ∀ {G2 H2 : Hp}, Sub G2 H2 → Sub G' G2 → SqL M.K H2 L (a.map V.int) := fun {G2 H2} s2 s3 => by
      obtain ⟨L', e, hf⟩ := rScr.mono (s3.trans s2) hS
      cases e
      exact hf.sql
    refine ⟨L, rfl, ⟨_, sq i1.gh .refl⟩, p _ G' _ _ i1 s1 ⟨fun k G2 H2 i2 s2 => ?_, rfl⟩ R1⟩
    have q := sq i2.gh s2
    refine ⟨fun hk => ⟨_, q, by rw [List.length_map]; exact hk⟩, fun x hx => ?_⟩
    have hv : (a.map V.int)[k]? = some (.int x) := by rw [List.getElem?_map, hx]; rfl
    refine ⟨⟨_, _, q, hv⟩, fun v' H'' hy => ?_⟩
    obtain ⟨rfl, hy⟩ := hy
    have := hy _ q
    rw [hv] at this
    cases this
    exact ⟨G2, .refl i2.gh, rfl⟩
  | ex c e' => exact id
  | bad => exact id
/-- a borrowed list -/
theorem x_iLB {n : Nat} {l : Ln ε (List α)} {r : Rep α} (at' : BoAt R n (oL r) l) : EX M R (iList M.K (tVar n)) (walkS r) (mVar l) := fun F G H σ e i hR Q p => by
  obtain ⟨a, ha, p2⟩ := of_some p
  obtain ⟨L, ho, h1, h2, h3, vs, rfl, h5⟩ := at'.rd hR ha
  have q : ∀ {G2 H2 : Hp}, IV F G2 H2 → SqL M.K H2 L vs := fun i2 => .inl (.inl (i2.fr _ _ h3 h2))
  refine ⟨.ref L, h1, L, rfl, ⟨vs, q i⟩, p2 _ G H H i .refl ⟨fun k G2 H2 i2 s2 => ?_, rfl⟩ hR⟩
  refine ⟨fun hk => ⟨vs, q i2, by rw [h5.length]; exact hk⟩, fun x hx => ?_⟩
  obtain ⟨v, hv, hr⟩ := h5.get hx
  refine ⟨⟨vs, v, q i2, hv⟩, fun v' H'' hy => ?_⟩
  obtain ⟨rfl, hy⟩ := hy
  have := hy vs (q i2)
  rw [hv] at this
  cases this
  exact ⟨G2, .refl i2.gh, r.mono s2 hr⟩
/-- a range's numbers -/
def rng (lo hi : Int) : List Int := (List.range (hi - lo).toNat).map fun (k : Nat) => lo + (k : Int)
theorem rng_length {lo hi : Int} : (rng lo hi).length = (hi - lo).toNat := by simp [rng]
theorem rng_get {lo hi : Int} {i : Nat} {x : Int} (h : (rng lo hi)[i]? = some x) : i < (hi - lo).toNat ∧ x = lo + i := by
  unfold rng at h
  rw [List.getElem?_map] at h
  cases z : (List.range (hi - lo).toNat)[i]? with
  | none => rw [z] at h; cases h
  | some k =>
    rw [z] at h
    obtain ⟨h1, h2⟩ := List.getElem?_eq_some_iff.mp z
    rw [List.length_range] at h1
    rw [List.getElem_range] at h2
    cases h
    exact ⟨h1, by rw [← h2]⟩
theorem walk_rng {K : PySem.W.Frag} {lo hi : Int} : Walk K (Itr lo (hi - lo).toNat) F G rI (rng lo hi) := fun i G' H' iv s => by
  refine ⟨fun h => by rw [rng_length] at h; exact h, fun x hx => ?_⟩
  obtain ⟨h1, h2⟩ := rng_get hx
  refine ⟨h1, fun v H'' hy => ?_⟩
  obtain ⟨rfl, hy⟩ := hy
  exact ⟨G', .refl iv.gh, by rw [hy, h2]; rfl⟩
def bigI (i : Int) : Bool := decide (-(2 ^ 62) ≤ i) && decide (i < 2 ^ 62)
def mRng1 (m : ε → Rs ε Int) : ε → Rs ε (List Int) := fun e => (m e).bind fun n e1 => if bigI n = true then .ok (rng 0 n) e1 else .bad
theorem x_rng1 {t : TA} {m : ε → Rs ε Int} (h : EX M R t (is (aOne (ir rI))) m) : EX M R (iRng1 t) (walkS rI) (mRng1 m) := fun F G H σ e i hR Q p =>
  h F G H σ e i hR _ (p.bind is_h fun vs n e1 G1 H1 i1 s1 R1 r1 p1 => by
    obtain ⟨⟨v, rfl, rfl⟩, _⟩ := r1
    by_cases hb : bigI n = true
    · rw [if_pos hb] at p1
      have hb' := hb
      simp only [bigI, Bool.and_eq_true, decide_eq_true_eq] at hb'
      refine ⟨n, rfl, hb'.1, hb'.2, p1 _ G1 H1 H1 i1 .refl ⟨?_, rfl⟩ R1⟩
      have := walk_rng (F := F) (G := G1) (K := M.K) (lo := 0) (hi := n)
      rw [Int.sub_zero] at this
      exact this
    · rw [if_neg hb] at p1
      exact p1.elim)
def mRng2 (m : ε → Rs ε (Int × Int)) : ε → Rs ε (List Int) := fun e => (m e).bind fun n e1 => if bigI n.1 = true ∧ bigI n.2 = true then .ok (rng n.1 n.2) e1 else .bad
theorem x_rng2 {t : TA} {m : ε → Rs ε (Int × Int)} (h : EX M R t (is (aCons (ir rI) (aOne (ir rI)))) m) : EX M R (iRng2 t) (walkS rI) (mRng2 m) := fun F G H σ e i hR Q p =>
  h F G H σ e i hR _ (p.bind is_h fun vs n e1 G1 H1 i1 s1 R1 r1 p1 => by
    obtain ⟨⟨v, ws, rfl, hv, w, rfl, hw⟩, _⟩ := r1
    by_cases hb : bigI n.1 = true ∧ bigI n.2 = true
    · rw [if_pos hb] at p1
      have hb' := hb
      simp only [bigI, Bool.and_eq_true, decide_eq_true_eq] at hb'
      exact ⟨n.1, n.2, by rw [show v = .int n.1 from hv, show w = .int n.2 from hw], ⟨hb'.1.1, hb'.1.2, hb'.2.1, hb'.2.2⟩, p1 _ G1 H1 H1 i1 .refl ⟨walk_rng, rfl⟩ R1⟩
    · rw [if_neg hb] at p1
      exact p1.elim)
/-- numbered -/
def enumF (xs : List α) : List (Int × α) := xs.zipIdx.map fun p => ((p.2 : Int), p.1)
theorem enumF_length {xs : List α} : (enumF xs).length = xs.length := by simp [enumF]
theorem enumF_get {xs : List α} {i : Nat} {p : Int × α} (h : (enumF xs)[i]? = some p) : p.1 = i ∧ xs[i]? = some p.2 := by
  unfold enumF at h
  rw [List.getElem?_map, List.getElem?_zipIdx] at h
  cases z : xs[i]? with
  | none => rw [z] at h; cases h
  | some x => rw [z] at h; simp at h; subst h; exact ⟨rfl, rfl⟩
def mEnum (m : ε → Rs ε (List α)) : ε → Rs ε (List (Int × α)) := fun e => (m e).bind fun xs e1 => .ok (enumF xs) e1
theorem x_enum {t : TE} {r : Rep α} {m : ε → Rs ε (List α)} (h : EX M R t (fz (rL r)) m) : EX M R (iEnum M.K (tCons t tNil)) (walkS (rT2 rI r)) (mEnum m) := fun F G H σ e i hR Q p =>
  h F G H σ e i hR _ (p.bind fz_h fun v a e1 G' H' i1 s1 R1 r1 p1 => by
    obtain ⟨⟨L, ho, rfl, hg, vs, rfl, ha⟩, _⟩ := r1
    refine ⟨L, vs, rfl, sql_of i1.gh hg, p1 _ G' _ _ i1 .refl ⟨fun k G2 H2 i2 s2 => ?_, rfl⟩ R1⟩
    have q : SqL M.K H2 L vs := sql_of i2.gh (s2 _ _ hg)
    refine ⟨fun hk => ⟨vs, q, by rw [ha.length]; rw [enumF_length] at hk; exact hk⟩, fun x hx => ?_⟩
    obtain ⟨hx1, hx2⟩ := enumF_get hx
    obtain ⟨v, hv, hr⟩ := ha.get hx2
    refine ⟨⟨vs, v, q, hv⟩, fun v' H'' hy => ?_⟩
    obtain ⟨T, y, rfl, hT, rfl, hy⟩ := hy
    have := hy vs q
    rw [hv] at this
    cases this
    exact ⟨upd G2 T _, .new i2.gh hT, T, _, rfl, upd_same, _, _, rfl, by rw [hx1]; rfl, r.mono (s2.trans (sub_upd (i2.gh.no hT))) hr⟩)
/-! ## for -/
def mLoop (b : α → ε → So ε ρ) : List α → ε → So ε ρ
  | [], e => .nx e
  | x :: xs, e => match b x e with
    | .nx e1 => mLoop b xs e1 | .ct e1 => mLoop b xs e1 | .bk e1 => .nx e1 | .rt a e1 => .rt a e1 | .ex c e1 => .ex c e1 | .bad => .bad
def mFor (m : ε → Rs ε (List α)) (pt : α → ε → ε) (b : ε → So ε ρ) : ε → So ε ρ := fun e => (m e).so fun xs e1 => mLoop (fun x e => b (pt x e)) xs e1
theorem s_for {wi : TI} {g : TG} {tb : TS} {r : Rep α} {vs : List Nat} {m : ε → Rs ε (List α)} {pt : α → ε → ε} {b : ε → So ε ρ} (h : EX M R wi (walkS r) m) (hg : TGN M R g r vs pt) (hb : SX M R rr tb b) : SX M R rr (tFor wi g tb) (mFor m pt b) := fun F G H σ e i hR D p =>
  h F G H σ e i hR _ (p.so fun J xs e1 G1 H1 H1' i1 s1 hr R1 p1 => by
    rw [hr.2] at R1
    refine ⟨fun i m σ' H' => m = xs.length - i ∧ i ≤ xs.length ∧ ∃ G' e', IV F G' H' ∧ Sub G1 G' ∧ R.rel M.K F G' H' σ' e' ∧ PostS M R rr F G' D (mLoop (fun x e => b (pt x e)) (xs.drop i) e'),
      ⟨xs.length, rfl, Nat.zero_le _, G1, e1, i1, .refl, R1, p1⟩, ?_⟩
    rintro k m σ' H' ⟨rfl, hk, G', e', i', s', R', p'⟩
    have hw := hr.1 k G' H' i' s'
    by_cases hlt : k < xs.length
    · rw [List.drop_eq_getElem_cons hlt] at p'
      obtain ⟨h1, h2⟩ := hw.2 xs[k] (List.getElem?_eq_getElem hlt)
      refine .inr ⟨h1, fun σ2 H2 => k + 1 ≤ xs.length ∧ ∃ G' e', IV F G' H2 ∧ Sub G1 G' ∧ R.rel M.K F G' H2 σ2 e' ∧ PostS M R rr F G' D (mLoop (fun x e => b (pt x e)) (xs.drop (k + 1)) e'), fun σ2 H2 hN => ⟨xs.length - (k + 1), by omega, rfl, hN⟩, fun v H'' hy => ?_⟩
      obtain ⟨G2, st, rv⟩ := h2 v H'' hy
      have i2 := i'.step st
      refine hg F G2 H'' σ' e' v _ i2 (R.mono st.g st.h st.n R') rv _ fun σ2 _ R2 => hb F G2 H'' σ2 _ i2 R2 _ ?_
      unfold mLoop at p'
      revert p'
      cases b (pt xs[k] e') with
      | nx e3 => exact fun p' σ3 G3 H3 i3 s3 R3 => ⟨hlt, G3, e3, i3, s'.trans (st.g.trans s3), R3, p'.up (st.g.trans s3)⟩
      | ct e3 => exact fun p' σ3 G3 H3 i3 s3 R3 => ⟨hlt, G3, e3, i3, s'.trans (st.g.trans s3), R3, p'.up (st.g.trans s3)⟩
      | bk e3 => exact fun p' σ3 G3 H3 i3 s3 R3 => p' σ3 G3 H3 i3 (st.g.trans s3) R3
      | rt a e3 => exact fun p' v σ3 G3 H3 H3' i3 s3 => p' v σ3 G3 H3 H3' i3 (st.g.trans s3)
      | ex c e3 => exact fun p' cls d σ3 G3 H3 i3 s3 => p' cls d σ3 G3 H3 i3 (st.g.trans s3)
      | bad => exact id
    · have e0 : xs.drop k = [] := List.drop_eq_nil_of_le (by omega)
      rw [e0] at p'
      exact .inl ⟨hw.1 (by omega), p' σ' G' H' i' .refl R'⟩)
/-! ## while -/
def mWhileN (c : ε → Rs ε Bool) (b : ε → So ε ρ) : Nat → ε → So ε ρ
  | 0, _ => .bad
  | n + 1, e => (c e).so fun v e1 => if v = true then (match b e1 with
    | .nx e2 => mWhileN c b n e2 | .ct e2 => mWhileN c b n e2 | .bk e2 => .nx e2 | .rt a e2 => .rt a e2 | .ex c e2 => .ex c e2 | .bad => .bad) else .nx e1
theorem s_while {tc : TT} {tb : TS} {c : ε → Rs ε Bool} {b : ε → So ε ρ} (fuel : Nat) (hc : EX M R tc (fz bR) c) (hb : SX M R rr tb b) : SX M R rr (tWhile tc tb) (mWhileN c b fuel) := fun F G H σ e i hR D p => by
  refine ⟨fun m σ' H' => ∃ G' e', IV F G' H' ∧ Sub G G' ∧ R.rel M.K F G' H' σ' e' ∧ PostS M R rr F G' D (mWhileN c b m e'), ⟨fuel, G, e, i, .refl, hR, p⟩, ?_⟩
  rintro m σ' H' ⟨G', e', i', s', R', p'⟩
  cases m with
  | zero => exact p'.elim
  | succ m =>
    unfold mWhileN at p'
    refine hc F G' H' σ' e' i' R' _ (p'.so fun v a e1 G1 H1 H1' i1 s1 hr R1 p1 => ?_)
    have ee : v = a := hr.1
    subst ee
    rw [hr.2] at R1
    cases v with
    | false => exact p1 σ' G1 H1 i1 .refl R1
    | true =>
      rw [if_pos rfl] at p1 ⊢
      refine ⟨fun σ2 H2 => ∃ G' e', IV F G' H2 ∧ Sub G G' ∧ R.rel M.K F G' H2 σ2 e' ∧ PostS M R rr F G' D (mWhileN c b m e'), fun σ2 H2 hN => ⟨m, Nat.lt_succ_self m, hN⟩, hb F G1 H1 σ' e1 i1 R1 _ ?_⟩
      revert p1
      cases b e1 with
      | nx e3 => exact fun p' σ3 G3 H3 i3 s3 R3 => ⟨G3, e3, i3, s'.trans (s1.trans s3), R3, p'.up s3⟩
      | ct e3 => exact fun p' σ3 G3 H3 i3 s3 R3 => ⟨G3, e3, i3, s'.trans (s1.trans s3), R3, p'.up s3⟩
      | bk e3 => exact fun p' σ3 G3 H3 i3 s3 R3 => p' σ3 G3 H3 i3 s3 R3
      | rt a e3 => exact id
      | ex c e3 => exact id
      | bad => exact id
/-! ## comprehensions -/
/-- what raises nothing -/
def Rs.bindN {ε α β : Type} (x : Rs ε α) (f : α → ε → Rs ε β) : Rs ε β := match x with
  | .ok a e => f a e | .ex _ _ => .bad | .bad => .bad
@[simp] theorem Rs.bindN_ok {ε α β : Type} {a : α} {e : ε} {f : α → ε → Rs ε β} : (Rs.ok a e).bindN f = f a e := rfl
theorem wipe_wipe (σ : Sg) (vs : List Nat) : wipe (wipe σ vs) vs = wipe σ vs := by
  suffices h : ∀ us : List Nat, (∀ u ∈ us, u ∈ vs) → wipe (wipe σ us) vs = wipe σ vs from h vs fun _ h => h
  intro us
  induction us with
  | nil => intro _; rfl
  | cons u us ih =>
    intro h
    show wipe ((wipe σ us).set u none) vs = _
    rw [wipe_in (h u List.mem_cons_self)]
    exact ih fun x hx => h x (List.mem_cons_of_mem _ hx)
def lcR (pt : α → ε → ε) (tt : ε → Rs ε Bool) (te : ε → Rs ε β) (kill : ε → ε) : List α → ε → List β → Rs ε (List β)
  | [], e, acc => .ok acc e
  | x :: xs, e, acc => (tt (pt x e)).bindN fun b e1 => if b = true then (te e1).bindN fun y e2 => lcR pt tt te kill xs (kill e2) (acc ++ [y]) else lcR pt tt te kill xs (kill e1) acc
def mLc (it : ε → Rs ε (List α)) (pt : α → ε → ε) (tt : ε → Rs ε Bool) (te : ε → Rs ε β) (kill : ε → ε) (rst : ε → ε → ε) : ε → Rs ε (List β) := fun e => (it e).bind fun xs e1 => if xs.length ≤ 1000000 then (lcR pt tt te kill xs (kill e1) []).bind fun ys e2 => .ok ys (rst e1 e2) else .bad
def mYes : ε → Rs ε Bool := fun e => .ok true e
theorem x_yes : EX M R tYes (fz bR) mYes := fun F G H σ e i hR Q p => p true G H H i .refl ⟨rfl, rfl⟩ hR
theorem x_lc {wi : TI} {g : TG} {tt : TT} {te : TE} {r : Rep α} {rb : Rep β} {vs : List Nat} {it : ε → Rs ε (List α)} {pt : α → ε → ε} {mt : ε → Rs ε Bool} {me : ε → Rs ε β} {kill : ε → ε} {rst : ε → ε → ε}
    (h : EX M R wi (walkS r) it) (w : Wp R vs kill rst) (hg : TGN M R g r vs pt) (ht : EX M R tt (fz bR) mt) (he : EX M R te (fz rb) me) : EX M R (tLc wi g tt te vs) (fs (oL rb)) (mLc it pt mt me kill rst) := fun F G H σ e i hR Q p =>
  h F G H σ e i hR _ (by
    unfold mLc at p
    revert p
    cases it e with
    | bad => exact id
    | ex c e' => exact id
    | ok xs e1 =>
      intro p J G1 H1 H1' i1 s1 hr R1
      rw [hr.2] at R1
      by_cases hz : xs.length ≤ 1000000
      case neg => rw [Rs.bind_ok, if_neg hz] at p; exact p.elim
      rw [Rs.bind_ok, if_pos hz] at p
      intro L hL
      have xL : F.X L = none := i1.xs.no hL
      have yL : F.Y L = none := i1.ys.no hL
      have oL : F.H0 L = none := by
        cases z : F.H0 L with
        | none => rfl
        | some o => exact absurd hL (i1.al L (by rw [z]; intro z; cases z))
      refine ⟨fun k m H' => m = xs.length - k ∧ k ≤ xs.length ∧ ∃ G' e' av, ∃ ac : List β, IV F G' H' ∧ Sub G1 G' ∧ H' L = some (.lst av) ∧ G' L = none ∧ A2 (rb.rel M.K G') av ac ∧ ac.length ≤ k ∧ R.rel M.K F G' (hide H' L) (wipe σ vs) e' ∧
        Post M R F G σ (fs (Ws.oL rb)) Q ((lcR pt mt me kill (xs.drop k) e' ac).bind fun ys e2 => .ok ys (rst e1 e2)), ⟨xs.length, rfl, Nat.zero_le _, G1, kill e1, [], [], ?_, .refl, upd_same, i1.gh.no hL, .nil, Nat.le_refl _, ?_, p⟩, ?_⟩
      · exact i1.step (.own i1.gh hL)
      · rw [hide_upd, hide_none hL]
        exact w.kl R1
      rintro k m H' ⟨rfl, hk, G', e', av, ac, i', s', hl', gl', ha, hac, R', p'⟩
      have hw := hr.1 k G' H' i' s'
      by_cases hlt : k < xs.length
      · rw [List.drop_eq_getElem_cons hlt] at p'
        obtain ⟨h1, h2⟩ := hw.2 xs[k] (List.getElem?_eq_getElem hlt)
        refine .inr ⟨h1, fun H2 => k + 1 ≤ xs.length ∧ ∃ G' e' av, ∃ ac : List β, IV F G' H2 ∧ Sub G1 G' ∧ H2 L = some (.lst av) ∧ G' L = none ∧ A2 (rb.rel M.K G') av ac ∧ ac.length ≤ k + 1 ∧ R.rel M.K F G' (hide H2 L) (wipe σ vs) e' ∧
          Post M R F G σ (fs (Ws.oL rb)) Q ((lcR pt mt me kill (xs.drop (k + 1)) e' ac).bind fun ys e2 => .ok ys (rst e1 e2)), fun H2 hN => ⟨xs.length - (k + 1), by omega, rfl, hN⟩, fun v H'' hy => ?_⟩
        obtain ⟨G2, st, rv⟩ := h2 v H'' hy
        have i2 := i'.step st
        have hl2 := st.h _ _ hl'
        have gl2 : G2 L = none := by
          cases z : G2 L with
          | none => rfl
          | some o => exact absurd gl' (st.n L (by rw [hl']; intro z; cases z) (by rw [z]; intro z; cases z))
        have R2 : R.rel M.K F G2 (hide H'' L) (wipe σ vs) e' := R.mono st.g st.h.hide (fun b hb hn => st.n b (hide_sub.ne hb) hn) R'
        have i2l := i2.lock hl2 gl2
        have R2l := R.lock (o := .lst av) R2
        refine hg (F.lock L (.lst av)) G2 H'' _ _ v _ i2l R2l rv _ fun σ2 w2 R3 => ⟨?_, ?_⟩
        · rw [w2]
          exact wipe_wipe σ vs
        have w3 : wipe σ2 vs = wipe σ vs := by rw [w2]; exact wipe_wipe σ vs
        unfold lcR at p'
        refine ht (F.lock L (.lst av)) G2 H'' σ2 _ i2l R3 _ ?_
        revert p'
        cases mt (pt xs[k] e') with
        | bad => exact id
        | ex c e3 => exact fun p' => p'.elim
        | ok b e3 =>
          intro p' bv G3 H3 H3' i3 s3 r3 R4
          obtain rfl : bv = b := r3.1
          rw [r3.2] at R4
          obtain ⟨i3', hl3, gl3⟩ := i3.unlock xL
          cases bv with
          | false =>
            have R5 := w.kl (R.unlock R4)
            rw [w3] at R5
            exact ⟨hlt, G3, _, av, ac, i3', s'.trans (st.g.trans s3), hl3, gl3, ha.mono fun _ _ => rb.mono (st.g.trans s3), Nat.le_succ_of_le hac, R5, p'⟩
          | true =>
            rw [if_pos rfl]
            refine he (F.lock L (.lst av)) G3 H3 σ2 e3 i3 R4 _ ?_
            rw [Rs.bindN_ok, if_pos rfl] at p'
            revert p'
            cases me e3 with
            | bad => exact id
            | ex c e4 => exact fun p' => p'.elim
            | ok y e4 =>
              intro p' yv G4 H4 H4' i4 s4 r4 R5
              rw [r4.2] at R5
              obtain ⟨i4', hl4, gl4⟩ := i4.unlock xL
              have R6 := w.kl (R.unlock R5)
              rw [w3] at R6
              have sg := st.g.trans (s3.trans s4)
              refine ⟨av, hl4, by rw [ha.length, sizeLine_eq]; omega, hlt, G4, _, av ++ [yv], ac ++ [y], ?_, s'.trans sg, upd_same, gl4, (ha.mono fun _ _ => rb.mono sg).app (.cons r4.1 .nil), by rw [List.length_append, List.length_singleton]; omega, ?_, p'⟩
              · refine ⟨fun b o hb => ?_, i4'.g0, i4'.new, fun b o hb ho => ?_, fun b hb => ?_, fun b o hb => ?_, i4'.xg, fun b o hb => ?_, i4'.yg, i4'.tp.put (by intro _ h; cases h)⟩
                · rw [upd_ne (fun z => by rw [z, gl4] at hb; cases hb)]; exact i4'.gh b o hb
                · rw [upd_ne (fun z => by rw [z, oL] at ho; cases ho)]; exact i4'.fr b o hb ho
                · rw [upd_ne (fun z => hb (by rw [z, oL]))]; exact i4'.al b hb
                · rw [upd_ne (fun z => by rw [z, xL] at hb; cases hb)]; exact i4'.xs b o hb
                · rw [upd_ne (fun z => by rw [z, yL] at hb; cases hb)]; exact i4'.ys b o hb
              · rw [hide_upd]
                exact R6
      · have e0 : xs.drop k = [] := List.drop_eq_nil_of_le (by omega)
        rw [e0] at p'
        exact .inl ⟨hw.1 (by omega), p' (.ref L) G' H' (hide H' L) i' (s1.trans s') ⟨L, _, rfl, hl', gl', ⟨oL, xL, yL⟩, ⟨av, rfl, ha⟩, rfl⟩ (w.rs R1 s' R')⟩)
end
/-! ## defs: promises by mirrors -/
section
variable {ν ν' α β γ ε ρ ι : Type} {M : Mx} {R : ERep ε} {F : Frm} {G G1 H : Hp} {σ : Sg} {D : Ends}
def PostD (K : PySem.W.Frag) (cx : Str → Addr) (F : Frm) (rr : RS V ρ) (Q : VK) (E : XK) : Rs Unit ρ → Prop
  | .ok b _ => ∀ v G' H' H1, IV F G' H' → rr.rel K F G' H' v b H1 → Q v H'
  | .ex _ _ => False
  | .bad => False
/-- a def that changes nothing: f its mirror -/
def spD (K : PySem.W.Frag) (cx : Str → Addr) (ra : IR (List V) α) (rr : RS V ρ) (f : α → Rs Unit ρ) : Sp := fun vs H Q E => ∃ G a, (Sub G H ∧ Tps G H) ∧ ra K G H vs a ∧ PostD K cx ⟨G, H, [], fun _ => none, fun _ => none⟩ rr Q E (f a)
def PostI (K : PySem.W.Frag) (cx : Str → Addr) (F : Frm) (p : Addr) (q : ORep ι) (rr : RS V ρ) (Q : VK) (E : XK) : Rs ι ρ → Prop
  | .ok b st => ∀ v G' H' H1 ho, IV F G' H' → rr.rel K F G' H' v b H1 → H1 p = some ho → G' p = none → q.rel K G' ho st → Q v H'
  | .ex _ _ => False
  | .bad => False
/-- a def that changes its first argument -/
def spI (K : PySem.W.Frag) (cx : Str → Addr) (q : ORep ι) (ra : IR (List V) α) (rr : RS V ρ) (f : ι → α → Rs ι ρ) : Sp := fun vs H Q E => ∃ G p ws ho st a, vs = .ref p :: ws ∧ H p = some ho ∧ G p = none ∧ q.rel K G ho st ∧ (Sub G H ∧ Tps G H) ∧ ra K G (hide H p) ws a ∧ PostI K cx ⟨G, H, [p], fun _ => none, fun _ => none⟩ p q rr Q E (f st a)
def Rs.run {ι : Type} (x : Rs Unit ρ) (e : ι) : Rs ι ρ := match x with
  | .ok b _ => .ok b e | .ex _ _ => .bad | .bad => .bad
@[simp] theorem Rs.run_ok {ι : Type} {b : ρ} {u : Unit} {e : ι} : (Rs.ok b u : Rs Unit ρ).run e = .ok b e := rfl
@[simp] theorem Rs.run_bad {ι : Type} {e : ι} : (Rs.bad : Rs Unit ρ).run e = .bad := rfl
def mCall (f : α → Rs Unit ρ) (m : ε → Rs ε α) : ε → Rs ε ρ := fun e => (m e).bind fun a e1 => (f a).run e1
theorem IV.start {G H : Hp} {ws : List Addr} (st : Sub G H ∧ Tps G H) : IV ⟨G, H, ws, fun _ => none, fun _ => none⟩ G H := ⟨st.1, .refl, fun _ _ h => h, fun _ _ _ h => h, fun _ h => h, fun _ _ h => (nomatch h), fun _ h => absurd rfl h, fun _ _ h => (nomatch h), fun _ h => absurd rfl h, st.2⟩
/-- behind a call that changes ws, objects of one's own -/
theorem IV.after {F : Frm} {G H G' H' : Hp} {ws : List Addr} (i : IV F G H) (j : IV ⟨G, H, ws, fun _ => none, fun _ => none⟩ G' H') (hw : ∀ p ∈ ws, (F.H0 p = none ∨ p ∈ F.ws) ∧ F.X p = none ∧ F.Y p = none ∧ G' p = none) : IV F G' H' := by
  refine ⟨j.gh, i.g0.trans j.g0, fun b h1 h2 => i.new b h1 (j.new b (i.al b h1) h2), fun b o h1 h2 => j.fr b o (fun z => ?_) (i.fr b o h1 h2), fun b h => j.al b (i.al b h), fun b o h => j.fr b o (fun z => ?_) (i.xs b o h), fun b h => ?_, fun b o h => j.fr b o (fun z => ?_) (i.ys b o h), fun b h => ?_, j.tp⟩
  · rcases (hw b z).1 with h | h
    · rw [h] at h2; cases h2
    · exact h1 h
  · rw [(hw b z).2.1] at h; cases h
  · cases z : G' b with
    | none => rfl
    | some o => exact absurd (i.xg b h) (j.new b (i.xs.ne h) (by rw [z]; intro z; cases z))
  · rw [(hw b z).2.2.1] at h; cases h
  · cases z : G' b with
    | none => rfl
    | some o => exact absurd (i.yg b h) (j.new b (i.ys.ne h) (by rw [z]; intro z; cases z))
theorem R_after {G H G' H' : Hp} {e : ε} (j : IV ⟨G, H, [], fun _ => none, fun _ => none⟩ G' H') (hR : R.rel M.K F G H σ e) : R.rel M.K F G' H' σ e := R.mono j.g0 (fun b o h => j.fr b o List.not_mem_nil h) (fun b h1 h2 => j.new b h1 h2) hR
theorem x_call {t : TA} {ra : IR (List V) α} {r : Rep ρ} {f : α → Rs Unit ρ} {m : ε → Rs ε α} (h : EX M R t (is ra) m) : EX M R (tCall (spD M.K M.cx ra (fz r) f) [] M.E t) (fz r) (mCall f m) := fun F G H σ e i hR Q p =>
  h F G H σ e i hR _ (p.bind is_h fun vs a e1 G1 H1 i1 s1 R1 r1 p1 => by
    rw [List.append_nil]
    refine ⟨G1, a, ⟨i1.gh, i1.tp⟩, r1.1, ?_⟩
    revert p1
    cases f a with
    | ok b u => exact fun p1 v G' H' Hx j hr => p1 v G' H' H' (i1.after j fun _ z => absurd z List.not_mem_nil) j.g0 ⟨hr.1, rfl⟩ (R_after j R1)
    | ex c u => exact id
    | bad => exact id)
theorem own_after {F : Frm} {G H : Hp} {L : Addr} (i : IV F G H) (h : H L = none) : ownN F L := ⟨by
  cases z : F.H0 L with
  | none => rfl
  | some o => exact absurd h (i.al L (by rw [z]; intro z; cases z)), i.xs.no h, i.ys.no h⟩
theorem x_callF {t : TA} {ra : IR (List V) α} {q : ORep ρ} {f : α → Rs Unit ρ} {m : ε → Rs ε α} (h : EX M R t (is ra) m) : EX M R (tCall (spD M.K M.cx ra (fs q) f) [] M.E t) (fs q) (mCall f m) := fun F G H σ e i hR Q p =>
  h F G H σ e i hR _ (p.bind is_h fun vs a e1 G1 H1 i1 s1 R1 r1 p1 => by
    rw [List.append_nil]
    refine ⟨G1, a, ⟨i1.gh, i1.tp⟩, r1.1, ?_⟩
    revert p1
    cases f a with
    | ok b u =>
      rintro p1 v G' H' Hx j ⟨L, ho, rfl, h1, h2, h3, h4, rfl⟩
      refine p1 (.ref L) G' H' (hide H' L) (i1.after j fun _ z => absurd z List.not_mem_nil) j.g0 ⟨L, ho, rfl, h1, h2, own_after i1 h3.1, h4, rfl⟩ (R.mono j.g0 (sub_hide (fun b o h => j.fr b o List.not_mem_nil h) h3.1) (fun b h1 h2 => j.new b h1 h2) R1)
    | ex c u => exact id
    | bad => exact id)
/-- a call that changes the object of a name -/
def mCallI (l : Ln ε ι) (f : ι → α → Rs ι ρ) (m : ε → Rs ε α) : ε → Rs ε ρ := fun e => match l.get e with
  | none => .bad
  | some _ => (m e).bind fun a e1 => match l.get e1 with
    | none => .bad
    | some st => match f st a with
      | .ok b st' => .ok b (l.put (some st') (l.put none e1)) | .ex _ _ => .bad | .bad => .bad
def OwnQ (own : Frm → Addr → Prop) : Prop := ∀ F L, own F L → (F.H0 L = none ∨ L ∈ F.ws) ∧ F.X L = none ∧ F.Y L = none
theorem ownN_q : OwnQ ownN := fun _ _ h => ⟨.inl h.1, h.2⟩
theorem ownI_q {k : Nat} : OwnQ (ownI k) := fun _ _ h => ⟨.inr (List.mem_of_getElem? h.1), h.2⟩
/-- arguments beside an object that is changed: read without it -/
def apt (ra : IR (List V) α) : RS (List V) α := ⟨fun K F G H vs a H1 => (∀ L, (F.H0 L = none ∨ L ∈ F.ws) → G L = none → ra K G (hide H L) vs a) ∧ H1 = H⟩
theorem apt_h {r : IR (List V) α} : ∀ K F G H v a H1, (apt r).rel K F G H v a H1 → H1 = H := fun _ _ _ _ _ _ _ z => z.2
theorem x_pnil : EX M R tNil (apt aNil) (mC ()) := fun F G H σ e i hR Q p => p [] G H H i .refl ⟨fun _ _ _ => rfl, rfl⟩ hR
theorem x_pone {t : TE} {r : Rep α} {i' : IR V α} {m : ε → Rs ε α} (cv : Cv r i') (h : EX M R t (fz r) m) : EX M R (tCons t tNil) (apt (aOne i')) m := fun F G H σ e i hR Q p => by
  refine h F G H σ e i hR _ ?_
  revert p
  cases m e with
  | ok a e' => exact fun p v G' H' H1 i1 s1 z R1 => p [v] G' H' H1 i1 s1 ⟨fun L _ hg => ⟨v, rfl, cv _ _ _ _ _ (sub_hide i1.gh hg) z.1⟩, z.2⟩ R1
  | ex c e' => exact id
  | bad => exact id
theorem x_poneB {n : Nat} {l : Ln ε α} {q : ORep α} (at' : BoAt R n q l) : EX M R (tCons (tVar n) tNil) (apt (aOne (rd q))) (mVar l) := fun F G H σ e i hR Q p => by
  obtain ⟨a, ha, p2⟩ := of_some p
  obtain ⟨L, ho, h1, h2, h3, h5⟩ := at'.rd hR ha
  refine ⟨.ref L, h1, p2 [.ref L] G H H i .refl ⟨fun L' hw hg => ⟨_, rfl, L, ho, rfl, ?_, h5⟩, rfl⟩ hR⟩
  rw [hide_ne (fun z => by subst z; rcases hw with hw | hw; rw [hw] at h2; cases h2; exact h3 hw)]
  exact i.fr _ _ h3 h2
theorem x_pcons {t : TE} {tr : TA} {r : Rep α} {j : IR V α} {k : IR (List V) β} {m : ε → Rs ε α} {n : ε → Rs ε β} (cv : Cv r j) (h : EX M R t (fz r) m) (h' : EX M R tr (apt k) n) : EX M R (tCons t tr) (apt (aCons j k)) (mPair m n) := fun F G H σ e i hR Q p =>
  h F G H σ e i hR _ (p.bind fz_h fun v a e1 G1 H1 i1 s1 R1 r1 p1 => h' F G1 H1 σ e1 i1 R1 _ (p1.bind apt_h fun ws b e2 G2 H2 i2 s2 R2 r2 p2 =>
    p2 (v :: ws) G2 H2 H2 i2 .refl ⟨fun L hw hg => ⟨v, ws, rfl, cv _ _ _ _ _ (sub_hide i2.gh hg) (r.mono s2 r1.1), r2.1 L hw hg⟩, rfl⟩ R2))
theorem x_pconsB {n : Nat} {l : Ln ε α} {tr : TA} {q : ORep α} {k : IR (List V) β} {m : ε → Rs ε β} (at' : BoAt R n q l) (h' : EX M R tr (apt k) m) : EX M R (tCons (tVar n) tr) (apt (aCons (rd q) k)) (mPairL l m) := fun F G H σ e i hR Q p => by
  unfold mPairL at p
  cases h0 : l.get e with
  | none => rw [h0] at p; exact p.elim
  | some a0 =>
    rw [h0] at p
    obtain ⟨L0, ho0, h1, _⟩ := at'.rd hR h0
    refine ⟨_, h1, h' F G H σ e i hR _ (p.bind apt_h fun ws b e1 G1 H1 i1 s1 R1 r1 p1 => ?_)⟩
    unfold mVar at p1
    cases h2 : l.get e1 with
    | none => rw [h2] at p1; exact p1.elim
    | some a1 =>
      rw [h2] at p1
      obtain ⟨L, ho, h3, h4, h4', h5⟩ := at'.rd R1 h2
      rw [h1] at h3
      cases h3
      refine p1 (.ref _ :: ws) G1 H1 H1 i1 .refl ⟨fun L hw hg => ⟨_, ws, rfl, ⟨_, ho, rfl, ?_, h5⟩, r1.1 L hw hg⟩, rfl⟩ R1
      rw [hide_ne (fun z => by subst z; rcases hw with hw | hw; rw [hw] at h4; cases h4; exact h4' hw)]
      exact i1.fr _ _ h4' h4
theorem x_callI {n : Nat} {own : Frm → Addr → Prop} {l : Ln ε ι} {q : ORep ι} {t : TA} {ri : IR (List V) α} {r : Rep ρ} {f : ι → α → Rs ι ρ} {m : ε → Rs ε α} (at' : OwAt R n own q l) (ho : OwnQ own)
    (h : EX M R t (apt ri) m) : EX M R (tCall (spI M.K M.cx q ri (fz r) f) [] M.E (tCons (tVar n) t)) (fz r) (mCallI l f m) := fun F G H σ e i hR Q p => by
  unfold mCallI at p
  cases h0 : l.get e with
  | none => rw [h0] at p; exact p.elim
  | some st0 =>
    rw [h0] at p
    obtain ⟨L0, ho0, h1, _⟩ := at'.rd hR h0
    refine ⟨_, h1, h F G H σ e i hR _ (p.bind apt_h fun ws a e1 G1 H1 i1 s1 R1 r1 p1 => ?_)⟩
    show spI M.K M.cx q ri (fz r) f ((V.ref L0 :: ws) ++ []) H1 Q M.E
    rw [List.append_nil]
    cases h2 : l.get e1 with
    | none => rw [h2] at p1; exact p1.elim
    | some st =>
      rw [h2] at p1
      obtain ⟨L, hob, h3, h4, h5, h6, h7, h8⟩ := at'.rd R1 h2
      rw [h1] at h3
      cases h3
      have hp : ∀ {G' : Hp}, G' L0 = none → ∀ p ∈ [L0], (F.H0 p = none ∨ p ∈ F.ws) ∧ F.X p = none ∧ F.Y p = none ∧ G' p = none := fun hg p hp => by
        obtain rfl := List.mem_singleton.mp hp
        exact ⟨(ho _ _ h6).1, (ho _ _ h6).2.1, (ho _ _ h6).2.2, hg⟩
      have back : ∀ {G' H' : Hp} {ho' : HO} {st' : ι}, IV ⟨G1, H1, [L0], fun _ => none, fun _ => none⟩ G' H' → H' L0 = some ho' → G' L0 = none → q.rel M.K G' ho' st' → R.rel M.K F G' H' σ (l.put (some st') (l.put none e1)) := fun {G' H' ho' st'} j e2 e3 e4 =>
        at'.bk (R.mono j.g0 (fun b o hb => by
          obtain ⟨nb, hb⟩ := hide_some hb
          rw [hide_ne nb]
          exact j.fr b o (by simpa using nb) hb) (fun b hb hn => j.new b (hide_sub.ne hb) hn) h8) h1 e2 e3 h6 e4
      refine ⟨G1, L0, ws, hob, st, a, rfl, h4, h5, h7, ⟨i1.gh, i1.tp⟩, r1.1 _ (ho _ _ h6).1 h5, ?_⟩
      revert p1
      dsimp only
      cases f st a with
      | ok b st' =>
        rintro p1 v G' H' Hx ho' j ⟨hr, rfl⟩ e2 e3 e4
        exact p1 v G' _ _ (i1.after j (hp e3)) j.g0 ⟨hr, rfl⟩ (back j e2 e3 e4)
      | ex c st' => exact id
      | bad => exact id
theorem x_callIF {n : Nat} {own : Frm → Addr → Prop} {l : Ln ε ι} {q : ORep ι} {t : TA} {ri : IR (List V) α} {qr : ORep ρ} {f : ι → α → Rs ι ρ} {m : ε → Rs ε α} (at' : OwAt R n own q l) (ho : OwnQ own)
    (h : EX M R t (apt ri) m) : EX M R (tCall (spI M.K M.cx q ri (fs qr) f) [] M.E (tCons (tVar n) t)) (fs qr) (mCallI l f m) := fun F G H σ e i hR Q p => by
  unfold mCallI at p
  cases h0 : l.get e with
  | none => rw [h0] at p; exact p.elim
  | some st0 =>
    rw [h0] at p
    obtain ⟨L0, ho0, h1, _⟩ := at'.rd hR h0
    refine ⟨_, h1, h F G H σ e i hR _ (p.bind apt_h fun ws a e1 G1 H1 i1 s1 R1 r1 p1 => ?_)⟩
    show spI M.K M.cx q ri (fs qr) f ((V.ref L0 :: ws) ++ []) H1 Q M.E
    rw [List.append_nil]
    cases h2 : l.get e1 with
    | none => rw [h2] at p1; exact p1.elim
    | some st =>
      rw [h2] at p1
      obtain ⟨L, hob, h3, h4, h5, h6, h7, h8⟩ := at'.rd R1 h2
      rw [h1] at h3
      cases h3
      have hp : ∀ {G' : Hp}, G' L0 = none → ∀ p ∈ [L0], (F.H0 p = none ∨ p ∈ F.ws) ∧ F.X p = none ∧ F.Y p = none ∧ G' p = none := fun hg p hp => by
        obtain rfl := List.mem_singleton.mp hp
        exact ⟨(ho _ _ h6).1, (ho _ _ h6).2.1, (ho _ _ h6).2.2, hg⟩
      have back : ∀ {G' H' : Hp} {ho' : HO} {st' : ι}, IV ⟨G1, H1, [L0], fun _ => none, fun _ => none⟩ G' H' → H' L0 = some ho' → G' L0 = none → q.rel M.K G' ho' st' → R.rel M.K F G' H' σ (l.put (some st') (l.put none e1)) := fun {G' H' ho' st'} j e2 e3 e4 =>
        at'.bk (R.mono j.g0 (fun b o hb => by
          obtain ⟨nb, hb⟩ := hide_some hb
          rw [hide_ne nb]
          exact j.fr b o (by simpa using nb) hb) (fun b hb hn => j.new b (hide_sub.ne hb) hn) h8) h1 e2 e3 h6 e4
      refine ⟨G1, L0, ws, hob, st, a, rfl, h4, h5, h7, ⟨i1.gh, i1.tp⟩, r1.1 _ (ho _ _ h6).1 h5, ?_⟩
      revert p1
      dsimp only
      cases f st a with
      | ok b st' =>
        rintro p1 v G' H' Hx ho' j ⟨L', ho2, rfl, g1, g2, g3, g4, rfl⟩ e2 e3 e4
        obtain ⟨ne, e2⟩ := hide_some e2
        refine p1 (.ref L') G' H' (hide H' L') (i1.after j (hp e3)) j.g0 ⟨L', ho2, rfl, g1, g2, own_after i1 g3.1, g4, rfl⟩ (at'.bk (R.mono j.g0 (fun b o hb => ?_) (fun b hb hn => j.new b (hide_sub.ne hb) hn) h8) h1 (by rw [hide_ne ne]; exact e2) e3 h6 e4)
        obtain ⟨nb, hb⟩ := hide_some hb
        rw [hide_ne nb, hide_ne (ne_of_none hb g3.1)]
        exact j.fr b o (by simpa using nb) hb
      | ex c st' => exact id
      | bad => exact id
/-! ## lists of arguments that are frozen -/
def gNilA : GR (List V) Unit := ⟨fun _ _ vs _ => vs = [], fun _ h => h⟩
def gOne (r : Rep α) : GR (List V) α := ⟨fun K G vs a => ∃ v, vs = [v] ∧ r.rel K G v a, fun s ⟨v, h1, h2⟩ => ⟨v, h1, r.mono s h2⟩⟩
def gConsA (r : Rep α) (ra : GR (List V) β) : GR (List V) (α × β) := ⟨fun K G vs p => ∃ v ws, vs = v :: ws ∧ r.rel K G v p.1 ∧ ra.rel K G ws p.2, fun s ⟨v, ws, h1, h2, h3⟩ => ⟨v, ws, h1, r.mono s h2, ra.mono s h3⟩⟩
theorem Cv.nil : Cv gNilA aNil := fun _ _ _ _ _ _ h => h
theorem Cv.one {r : Rep α} {i : IR V α} (c : Cv r i) : Cv (gOne r) (aOne i) := fun K G H vs a s ⟨v, h1, h2⟩ => ⟨v, h1, c _ _ _ _ _ s h2⟩
theorem Cv.cons {r : Rep α} {i : IR V α} {ra : GR (List V) β} {ri : IR (List V) β} (c : Cv r i) (d : Cv ra ri) : Cv (gConsA r ra) (aCons i ri) := fun K G H vs a s ⟨v, ws, h1, h2, h3⟩ => ⟨v, ws, h1, c _ _ _ _ _ s h2, d _ _ _ _ _ s h3⟩
theorem x_gnil : EX M R tNil (fz gNilA) (mC ()) := fun F G H σ e i hR Q p => p [] G H H i .refl ⟨rfl, rfl⟩ hR
theorem x_gone {t : TE} {r : Rep α} {m : ε → Rs ε α} (h : EX M R t (fz r) m) : EX M R (tCons t tNil) (fz (gOne r)) m := fun F G H σ e i hR Q p => by
  refine h F G H σ e i hR _ ?_
  revert p
  cases m e with
  | ok a e' => exact fun p v G' H' H1 i1 s1 z R1 => p [v] G' H' H1 i1 s1 ⟨⟨v, rfl, z.1⟩, z.2⟩ R1
  | ex c e' => exact id
  | bad => exact id
theorem x_gcons {t : TE} {tr : TA} {r : Rep α} {ra : GR (List V) β} {m : ε → Rs ε α} {n : ε → Rs ε β} (h : EX M R t (fz r) m) (h' : EX M R tr (fz ra) n) : EX M R (tCons t tr) (fz (gConsA r ra)) (mPair m n) := fun F G H σ e i hR Q p =>
  h F G H σ e i hR _ (p.bind fz_h fun v a e1 G1 H1 i1 s1 R1 r1 p1 => h' F G1 H1 σ e1 i1 R1 _ (p1.bind fz_h fun ws b e2 G2 H2 i2 s2 R2 r2 p2 =>
    p2 (v :: ws) G2 H2 H2 i2 .refl ⟨⟨v, ws, rfl, r.mono s2 r1.1, r2.1⟩, rfl⟩ R2))
/-! ## a def's body -/
def So.run (dn : Option ρ) : So ε ρ → Rs Unit ρ
  | .rt a _ => .ok a () | .nx _ => .of dn () | .ex c _ => .ex c () | _ => .bad
def So.runI (l : Ln ε ι) (dn : Option ρ) : So ε ρ → Rs ι ρ
  | .rt a e => match l.get e with
    | some st => .ok a st
    | none => .bad
  | .nx e => match l.get e with
    | some st => .of dn st
    | none => .bad
  | .ex c e => match l.get e with
    | some st => .ex c st
    | none => .bad
  | _ => .bad
theorem d_D {K : PySem.W.Frag} {cx : Str → Addr} {E : XK} {N : List Str} {vs : List V} {Q : VK} {rr : RS V ρ} {t : TS} {mb : ε → So ε ρ} {ra : IR (List V) α} {e0 : α → ε} {dn : Option ρ} {E' : XK} (hs : SX ⟨K, E', cx⟩ R rr t mb)
    (h0 : ∀ G H vs a, Sub G H → ra K G H vs a → R.rel K ⟨G, H, [], fun _ => none, fun _ => none⟩ G H (start N vs) (e0 a)) (hd : ∀ b, dn = some b → ∀ F G H, rr.rel K F G H .non b H) (h : spD K cx ra rr (fun a => (mb (e0 a)).run dn) vs H Q E) :
    t { nx := fun _ H' => Q .non H', rt := Q } (start N vs) H := by
  obtain ⟨G, a, s, hr, p⟩ := h
  have p : PostD K cx ⟨G, H, [], fun _ => none, fun _ => none⟩ rr Q E ((mb (e0 a)).run dn) := p
  refine hs ⟨G, H, [], fun _ => none, fun _ => none⟩ G H _ (e0 a) (.start s) (h0 G H vs a s.1 hr) _ ?_
  cases z : mb (e0 a) with
  | rt b e =>
    rw [z] at p
    exact fun v σ' G' H' H1 i _ hv _ => p v G' H' H1 i hv
  | nx e =>
    rw [z] at p
    cases dn with
    | none => exact False.elim p
    | some b => exact fun σ' G' H' i _ _ => p .non G' H' H' i (hd b rfl _ _ _)
  | ex c e => rw [z] at p; exact False.elim p
  | bk e => rw [z] at p; exact False.elim p
  | ct e => rw [z] at p; exact False.elim p
  | bad => rw [z] at p; exact False.elim p
theorem d_I {K : PySem.W.Frag} {cx : Str → Addr} {E : XK} {N : List Str} {vs : List V} {Q : VK} {rr : RS V ρ} {t : TS} {mb : ε → So ε ρ} {q : ORep ι} {l : Ln ε ι} {ra : IR (List V) α} {e0 : ι → α → ε} {dn : Option ρ} {E' : XK} (hs : SX ⟨K, E', cx⟩ R rr t mb) (at' : OwAt R 0 (ownI 0) q l)
    (h0 : ∀ G H p ho st ws a, H p = some ho → G p = none → q.rel K G ho st → Sub G H → ra K G (hide H p) ws a → R.rel K ⟨G, H, [p], fun _ => none, fun _ => none⟩ G H (start N (.ref p :: ws)) (e0 st a)) (hd : ∀ b, dn = some b → ∀ F G H, rr.rel K F G H .non b H)
    (h : spI K cx q ra rr (fun st a => (mb (e0 st a)).runI l dn) vs H Q E) : t { nx := fun _ H' => Q .non H', rt := Q } (start N vs) H := by
  obtain ⟨G, p, ws, ho, st, a, rfl, h1, h2, h3, s, hr, pp⟩ := h
  refine hs ⟨G, H, [p], fun _ => none, fun _ => none⟩ G H _ (e0 st a) (.start s) (h0 G H p ho st ws a h1 h2 h3 s.1 hr) _ ?_
  have look : ∀ {G' H' : Hp} {σ' : Sg} {e : ε} {x : ι}, R.rel K ⟨G, H, [p], fun _ => none, fun _ => none⟩ G' H' σ' e → l.get e = some x → ∃ ho', H' p = some ho' ∧ G' p = none ∧ q.rel K G' ho' x := fun hR hx => by
    obtain ⟨L, ho', _, b2, b3, b4, b5, _⟩ := at'.rd hR hx
    have : p = L := by simpa [ownI] using b4.1
    subst this
    exact ⟨ho', b2, b3, b5⟩
  have pp : PostI K cx ⟨G, H, [p], fun _ => none, fun _ => none⟩ p q rr Q E ((mb (e0 st a)).runI l dn) := pp
  cases z0 : mb (e0 st a) with
  | rt b e =>
    rw [z0] at pp
    unfold So.runI at pp
    cases z : l.get e with
    | none => simp only [z] at pp; exact False.elim pp
    | some x =>
      simp only [z] at pp
      exact fun v σ' G' H' H1 i _ hv hR => let ⟨ho', b1, b2, b3⟩ := look hR z; pp v G' H' H1 ho' i hv b1 b2 b3
  | nx e =>
    rw [z0] at pp
    unfold So.runI at pp
    cases z : l.get e with
    | none => simp only [z] at pp; exact False.elim pp
    | some x =>
      simp only [z] at pp
      cases dn with
      | none => exact False.elim pp
      | some b => exact fun σ' G' H' i _ hR => let ⟨ho', b1, b2, b3⟩ := look hR z; pp .non G' H' H' ho' i (hd b rfl _ _ _) b1 b2 b3
  | ex c e =>
    rw [z0] at pp
    unfold So.runI at pp
    cases z : l.get e with
    | none => simp only [z] at pp; exact False.elim pp
    | some x => simp only [z] at pp; exact False.elim pp
  | bk e => rw [z0] at pp; exact False.elim pp
  | ct e => rw [z0] at pp; exact False.elim pp
  | bad => rw [z0] at pp; exact False.elim pp
/-! ## the names as a def begins -/
theorem e_nil {K : PySem.W.Frag} : eNil.rel K F G H [] () := rfl
theorem e_fr {K : PySem.W.Frag} {r : Rep α} {v : V} {a : α} {e : ε} (h : r.rel K G v a) (t : R.rel K F G H σ e) : (eFr r R).rel K F G H (some v :: σ) (some a, e) := ⟨_, _, rfl, fun x hx => ⟨v, rfl, by cases hx; exact h⟩, t⟩
theorem e_frN {K : PySem.W.Frag} {r : Rep α} {o : Option V} {e : ε} (t : R.rel K F G H σ e) : (eFr r R).rel K F G H (o :: σ) (none, e) := ⟨_, _, rfl, fun x hx => (nomatch hx), t⟩
theorem e_owN {K : PySem.W.Frag} {own : Frm → Addr → Prop} [op : OwnP own] {q : ORep α} {o : Option V} {e : ε} (t : R.rel K F G H σ e) : (eOwP own q R).rel K F G H (o :: σ) (none, e) := ⟨_, _, rfl, .inl ⟨rfl, t⟩⟩
theorem e_bo {K : PySem.W.Frag} {q : ORep α} {v : V} {a : α} {e : ε} {H0 : Hp} (h : rd q K G H0 v a) (hs : ∀ b o, H0 b = some o → F.H0 b = some o ∧ b ∉ F.ws) (t : R.rel K F G H σ e) : (eBo q R).rel K F G H (some v :: σ) (some a, e) :=
  ⟨_, _, rfl, fun x hx => by
    cases hx
    obtain ⟨L, ho, rfl, h1, h2⟩ := h
    exact ⟨L, ho, rfl, (hs _ _ h1).1, (hs _ _ h1).2, h2⟩, t⟩
theorem e_io {K : PySem.W.Frag} {q : ORep α} {p : Addr} {ho : HO} {a : α} {e : ε} (h1 : H p = some ho) (h2 : G p = none) (h3 : q.rel K G ho a) (hF : F.ws[0]? = some p) (hX : F.X p = none ∧ F.Y p = none) (t : R.rel K F G (hide H p) σ e) : (eIo 0 q R).rel K F G H (some (.ref p) :: σ) (some a, e) :=
  ⟨_, _, rfl, .inr ⟨a, p, ho, rfl, rfl, h1, h2, ⟨hF, hX⟩, h3, t⟩⟩
theorem bo_D {G H : Hp} : ∀ b o, H b = some o → (Frm.mk G H [] (fun _ => none) fun _ => none).H0 b = some o ∧ b ∉ (Frm.mk G H [] (fun _ => none) fun _ => none).ws := fun b o h => ⟨h, List.not_mem_nil⟩
theorem bo_I {G H : Hp} {p : Addr} : ∀ b o, hide H p b = some o → (Frm.mk G H [p] (fun _ => none) fun _ => none).H0 b = some o ∧ b ∉ (Frm.mk G H [p] (fun _ => none) fun _ => none).ws := fun b o h => ⟨(hide_some h).2, by simpa using (hide_some h).1⟩
def ALen (ra : IR (List V) α) (n : Nat) : Prop := ∀ K G H vs a, ra K G H vs a → vs.length = n
theorem ALen.nil : ALen aNil 0 := fun _ _ _ _ _ h => by rw [show _ = [] from h]; rfl
theorem ALen.one {i : IR V α} : ALen (aOne i) 1 := fun _ _ _ _ _ ⟨v, h, _⟩ => by rw [h]; rfl
theorem ALen.cons {i : IR V α} {ra : IR (List V) β} {n : Nat} (h : ALen ra n) : ALen (aCons i ra) (n + 1) := fun _ _ _ _ _ ⟨v, ws, e, _, h2⟩ => by rw [e, List.length_cons, h _ _ _ _ _ h2]
theorem len_D {K : PySem.W.Frag} {cx : Str → Addr} {ra : IR (List V) α} {rr : RS V ρ} {f : α → Rs Unit ρ} {n : Nat} (h : ALen ra n) : ∀ vs H Q E, spD K cx ra rr f vs H Q E → vs.length = n := fun vs H Q E ⟨G, a, _, hr, _⟩ => h _ _ _ _ _ hr
theorem len_I {K : PySem.W.Frag} {cx : Str → Addr} {q : ORep ι} {ra : IR (List V) α} {rr : RS V ρ} {f : ι → α → Rs ι ρ} {n : Nat} (h : ALen ra n) : ∀ vs H Q E, spI K cx q ra rr f vs H Q E → vs.length = n + 1 := fun vs H Q E ⟨G, p, ws, ho, st, a, e, _, _, _, _, hr, _⟩ => by rw [e, List.length_cons, h _ _ _ _ _ hr]
end
/-! ## rules by values -/
section
variable {K : PySem.W.Frag} {α β γ ε ρ : Type} {w : World} {P : Program}
/-! ### numbers -/
def gAdd (i j : Int) : Option Int := some (i + j)
def gSubI (i j : Int) : Option Int := some (i - j)
def gMul (i j : Int) : Option Int := if (-18446744073709551616 < i ∧ i < 18446744073709551616) ∨ (-18446744073709551616 < j ∧ j < 18446744073709551616) then some (i * j) else none
def gDiv (i j : Int) : Option Int := if 0 < j ∧ j < 1073741824 then some (i / j) else none
def gMod (i j : Int) : Option Int := if 0 < j then some (i % j) else none
def gPow (i j : Int) : Option Int := if 0 ≤ j ∧ j ≤ 1000000 ∧ (-18446744073709551616 < i ∧ i < 18446744073709551616) then some (i ^ j.toNat) else none
def gShl (i j : Int) : Option Int := if 0 ≤ j ∧ j ≤ 1000000 ∧ (-18446744073709551616 < i ∧ i < 18446744073709551616) then some (i * 2 ^ j.toNat) else none
def gShr (i j : Int) : Option Int := if 0 ≤ j then some (i / 2 ^ j.toNat) else none
def gAnd (i j : Int) : Option Int := some (Builtin.bitAnd i j)
def gOr (i j : Int) : Option Int := some (Builtin.bitOr i j)
def gXor (i j : Int) : Option Int := some (Builtin.bitXor i j)
def gLt (i j : Int) : Option Bool := some (decide (i < j))
def gLe (i j : Int) : Option Bool := some (decide (i ≤ j))
def gGt (i j : Int) : Option Bool := some (decide (j < i))
def gGe (i j : Int) : Option Bool := some (decide (j ≤ i))
def gEq [DecidableEq α] (a b : α) : Option Bool := some (decide (a = b))
def gNe [DecidableEq α] (a b : α) : Option Bool := some (!decide (a = b))
def gNeg (i : Int) : Option Int := some (-i)
theorem v_I0 {g : Int → Int → V} {f : Int → Int → γ} {r' : Rep γ} (h : ∀ K G i j, r'.rel K G (g i j) (f i j)) : VR2 K (rI0 g) (ir rI) (ir rI) r' (fun i j => some (f i j)) := fun G H v w a b c Q s h1 h2 hg k => by
  cases hg
  exact ⟨a, b, h1, h2, k _ G H (.refl s) (h _ _ _ _)⟩
theorem v_add : VR2 K rAdd (ir rI) (ir rI) rI gAdd := v_I0 fun _ _ _ _ => rfl
theorem v_sub : VR2 K rSub (ir rI) (ir rI) rI gSubI := v_I0 fun _ _ _ _ => rfl
theorem v_and : VR2 K rAnd (ir rI) (ir rI) rI gAnd := v_I0 fun _ _ _ _ => rfl
theorem v_or : VR2 K rOr (ir rI) (ir rI) rI gOr := v_I0 fun _ _ _ _ => rfl
theorem v_xor : VR2 K rXor (ir rI) (ir rI) rI gXor := v_I0 fun _ _ _ _ => rfl
theorem v_lt : VR2 K rLt (ir rI) (ir rI) rB gLt := v_I0 fun _ _ _ _ => rfl
theorem v_le : VR2 K rLe (ir rI) (ir rI) rB gLe := v_I0 fun _ _ _ _ => rfl
theorem v_gt : VR2 K rGt (ir rI) (ir rI) rB gGt := v_I0 fun _ _ _ _ => rfl
theorem v_ge : VR2 K rGe (ir rI) (ir rI) rB gGe := v_I0 fun _ _ _ _ => rfl
theorem v_IC {C C' : Int → Int → Prop} [∀ i j, Decidable (C' i j)] {f : Int → Int → Int} (hC : ∀ i j, C' i j → C i j) : VR2 K (L2.rI C fun i j => .int (f i j)) (ir rI) (ir rI) rI (fun i j => if C' i j then some (f i j) else none) := fun G H v w a b c Q s h1 h2 hg k => by
  dsimp only at hg
  split at hg
  · next hc => cases hg; exact ⟨a, b, h1, h2, hC _ _ hc, k _ G H (.refl s) rfl⟩
  · cases hg
theorem v_mul : VR2 K rMul (ir rI) (ir rI) rI gMul := v_IC (C := CMul) fun i j h => by unfold CMul; omega
theorem v_div : VR2 K rDiv (ir rI) (ir rI) rI gDiv := v_IC fun i j h => h
theorem v_mod : VR2 K rMod (ir rI) (ir rI) rI gMod := v_IC fun i j h => h
theorem v_pow : VR2 K rPow (ir rI) (ir rI) rI gPow := v_IC (C := CPow) fun i j h => by unfold CPow; omega
theorem v_shl : VR2 K rShl (ir rI) (ir rI) rI gShl := v_IC (C := CPow) fun i j h => by unfold CPow; omega
theorem v_shr : VR2 K rShr (ir rI) (ir rI) rI gShr := v_IC fun i j h => h
theorem v_eqI : VR2 K rEq (ir rI) (ir rI) rB gEq := fun G H v w a b c Q s h1 h2 hg k => by
  cases hg; cases h1; cases h2
  exact ⟨rfl, by rw [show decide (V.int a = V.int b) = decide (a = b) by simp]; exact k _ G H (.refl s) rfl⟩
theorem v_neI : VR2 K rNe (ir rI) (ir rI) rB gNe := fun G H v w a b c Q s h1 h2 hg k => by
  cases hg; cases h1; cases h2
  exact ⟨rfl, by rw [show decide (V.int a = V.int b) = decide (a = b) by simp]; exact k _ G H (.refl s) rfl⟩
theorem v_eqS : VR2 K rEq (ir rS) (ir rS) rB gEq := fun G H v w a b c Q s h1 h2 hg k => by
  cases hg; cases h1; cases h2
  exact ⟨rfl, by rw [show decide (V.str a = V.str b) = decide (a = b) by simp]; exact k _ G H (.refl s) rfl⟩
theorem v_neS : VR2 K rNe (ir rS) (ir rS) rB gNe := fun G H v w a b c Q s h1 h2 hg k => by
  cases hg; cases h1; cases h2
  exact ⟨rfl, by rw [show decide (V.str a = V.str b) = decide (a = b) by simp]; exact k _ G H (.refl s) rfl⟩
theorem v_eqB : VR2 K rEq (ir rB) (ir rB) rB gEq := fun G H v w a b c Q s h1 h2 hg k => by
  cases hg; cases h1; cases h2
  exact ⟨rfl, by rw [show decide (V.bl a = V.bl b) = decide (a = b) by simp]; exact k _ G H (.refl s) rfl⟩
theorem v_neB : VR2 K rNe (ir rB) (ir rB) rB gNe := fun G H v w a b c Q s h1 h2 hg k => by
  cases hg; cases h1; cases h2
  exact ⟨rfl, by rw [show decide (V.bl a = V.bl b) = decide (a = b) by simp]; exact k _ G H (.refl s) rfl⟩
theorem v_isB : VR2 K rIsB (ir rB) (ir rB) rB gEq := fun G H v w a b c Q s h1 h2 hg k => by
  cases hg; cases h1; cases h2
  exact ⟨a, b, rfl, rfl, k _ G H (.refl s) rfl⟩
theorem v_notB : VR2 K rNotB (ir rB) (ir rB) rB gNe := fun G H v w a b c Q s h1 h2 hg k => by
  cases hg; cases h1; cases h2
  exact ⟨a, b, rfl, rfl, k _ G H (.refl s) rfl⟩
theorem v_neg : VR K (rU fun i => .int (-i)) (ir rI) rI gNeg := fun G H v a b Q s h1 hg k => by
  cases hg; cases h1
  exact ⟨a, rfl, k _ G H (.refl s) rfl⟩
/-- x is None -/
def gIsN (a : Option α) (_ : Unit) : Option Bool := some a.isNone
def gNotN (a : Option α) (_ : Unit) : Option Bool := some a.isSome
theorem v_isN {r : Rep α} : VR2 K rIsN (ir (rO r)) (ir rN) rB gIsN := fun G H v w a b c Q s h1 h2 hg k => by
  cases hg
  refine ⟨h2, k _ G H (.refl s) ?_⟩
  cases a with
  | none => rw [show v = .non from h1]; rfl
  | some x => rw [decide_eq_false h1.1]; rfl
theorem v_notN {r : Rep α} : VR2 K rNotN (ir (rO r)) (ir rN) rB gNotN := fun G H v w a b c Q s h1 h2 hg k => by
  cases hg
  refine ⟨h2, k _ G H (.refl s) ?_⟩
  cases a with
  | none => rw [show v = .non from h1]; rfl
  | some x => rw [decide_eq_false h1.1]; rfl
/-! ### lists, tuples -/
theorem sql_h {H : Hp} {L : Addr} {vs : List V} (h : H L = some (.lst vs)) : SqL K H L vs := .inl (.inl h)
theorem sqt_h {H : Hp} {L : Addr} {vs : List V} (h : H L = some (.tup vs)) : SqT K H L vs := .inl (.inl h)
def gLen (xs : List α) : Option Int := some (xs.length : Int)
theorem v_lenL {r : Rep α} : VR K (rLenL K) (aOne (rd (oL r))) rI gLen := fun G H v a b Q s ⟨x, h0, L, ho, h1, h2, vs, h3, h4⟩ hg k => by
  cases hg; subst h0 h1 h3
  exact ⟨L, vs, rfl, .inl (sql_h h2), k _ G H (.refl s) (by rw [h4.length]; rfl)⟩
theorem v_lenT {r : Rep α} : VR K (rLenL K) (aOne (rd (oT r))) rI gLen := fun G H v a b Q s ⟨x, h0, L, ho, h1, h2, vs, h3, h4⟩ hg k => by
  cases hg; subst h0 h1 h3
  exact ⟨L, vs, rfl, .inr (sqt_h h2), k _ G H (.refl s) (by rw [h4.length]; rfl)⟩
theorem v_lenS : VR K (rLenL K) (aOne (ir rScr)) rI gLen := fun G H v a b Q s ⟨x, h0, L, h1, h2⟩ hg k => by
  cases hg; subst h0 h1
  obtain ⟨L', e, hf⟩ := rScr.mono s ⟨L, rfl, h2⟩
  cases e
  exact ⟨L, _, rfl, .inl hf.sql, k _ G H (.refl s) (by rw [List.length_map]; rfl)⟩
/-- an item -/
def gIx (xs : List α) (i : Int) : Option α := atI xs i
theorem A2.at {R : α → β → Prop} {vs : List α} {xs : List β} {i : Int} {x : β} (h : A2 R vs xs) (e : atI xs i = some x) : ∃ v, atI vs i = some v ∧ R v x := by
  unfold atI at e ⊢
  rw [h.length]
  cases z : ixN xs.length i with
  | none => rw [z] at e; cases e
  | some j =>
    rw [z] at e
    exact h.get e
theorem v_ixL {r : Rep α} : VR2 K (rIxL K) (rd (oL r)) (ir rI) r gIx := fun G H v w a b c Q s ⟨L, ho, h1, h2, vs, h3, h4⟩ hi hg k => by
  subst h1 h3; cases hi
  obtain ⟨x, hx, hr⟩ := h4.at hg
  exact ⟨L, vs, b, x, rfl, rfl, sql_h h2, hx, k _ G H (.refl s) hr⟩
theorem v_ixT {r : Rep α} : VR2 K (rIxT K) (rd (oT r)) (ir rI) r gIx := fun G H v w a b c Q s ⟨L, ho, h1, h2, vs, h3, h4⟩ hi hg k => by
  subst h1 h3; cases hi
  obtain ⟨x, hx, hr⟩ := h4.at hg
  exact ⟨L, vs, b, x, rfl, rfl, sqt_h h2, hx, k _ G H (.refl s) hr⟩
theorem v_ixS : VR2 K (rIxL K) (ir rScr) (ir rI) rI gIx := fun G H v w a b c Q s hS hi hg k => by
  cases hi
  obtain ⟨L, rfl, hf⟩ := rScr.mono s hS
  have : A2 (fun v (i : Int) => v = V.int i) (a.map V.int) a := .ofMap fun _ _ => rfl
  obtain ⟨x, hx, hr⟩ := this.at hg
  exact ⟨L, _, b, x, rfl, rfl, hf.sql, hx, k _ G H (.refl s) hr⟩
/-- items of a pair, of three, by written numbers -/
def gFst (p : α × β) (i : Int) : Option α := if i = 0 then some p.1 else none
def gSnd (p : α × β) (i : Int) : Option β := if i = 1 then some p.2 else none
def g31 (p : α × β × γ) (i : Int) : Option β := if i = 1 then some p.2.1 else none
def g32 (p : α × β × γ) (i : Int) : Option γ := if i = 2 then some p.2.2 else none
theorem of_ite {c : Prop} [Decidable c] {x y : α} (h : (if c then some x else none) = some y) : c ∧ x = y := by
  split at h
  · next hc => cases h; exact ⟨hc, rfl⟩
  · cases h
theorem v_t20 {r : Rep α} {r' : Rep β} : VR2 K (rIxT K) (rd (oT2 r r')) (ir rI) r gFst := fun G H v w a b c Q s ⟨L, ho, h1, h2, x, y, h3, h4, h5⟩ hi hg k => by
  subst h1 h3; cases hi
  obtain ⟨rfl, rfl⟩ := of_ite hg
  exact ⟨L, _, 0, x, rfl, rfl, sqt_h h2, rfl, k _ G H (.refl s) h4⟩
theorem v_t21 {r : Rep α} {r' : Rep β} : VR2 K (rIxT K) (rd (oT2 r r')) (ir rI) r' gSnd := fun G H v w a b c Q s ⟨L, ho, h1, h2, x, y, h3, h4, h5⟩ hi hg k => by
  subst h1 h3; cases hi
  obtain ⟨rfl, rfl⟩ := of_ite hg
  exact ⟨L, _, 1, y, rfl, rfl, sqt_h h2, rfl, k _ G H (.refl s) h5⟩
theorem v_t30 {r : Rep α} {r' : Rep β} {r'' : Rep γ} : VR2 K (rIxT K) (rd (oT3 r r' r'')) (ir rI) r gFst := fun G H v w a b c Q s ⟨L, ho, h1, h2, x, y, z, h3, h4, h5, h6⟩ hi hg k => by
  subst h1 h3; cases hi
  obtain ⟨rfl, rfl⟩ := of_ite hg
  exact ⟨L, _, 0, x, rfl, rfl, sqt_h h2, rfl, k _ G H (.refl s) h4⟩
theorem v_t31 {r : Rep α} {r' : Rep β} {r'' : Rep γ} : VR2 K (rIxT K) (rd (oT3 r r' r'')) (ir rI) r' g31 := fun G H v w a b c Q s ⟨L, ho, h1, h2, x, y, z, h3, h4, h5, h6⟩ hi hg k => by
  subst h1 h3; cases hi
  obtain ⟨rfl, rfl⟩ := of_ite hg
  exact ⟨L, _, 1, y, rfl, rfl, sqt_h h2, rfl, k _ G H (.refl s) h5⟩
theorem v_t32 {r : Rep α} {r' : Rep β} {r'' : Rep γ} : VR2 K (rIxT K) (rd (oT3 r r' r'')) (ir rI) r'' g32 := fun G H v w a b c Q s ⟨L, ho, h1, h2, x, y, z, h3, h4, h5, h6⟩ hi hg k => by
  subst h1 h3; cases hi
  obtain ⟨rfl, rfl⟩ := of_ite hg
  exact ⟨L, _, 2, z, rfl, rfl, sqt_h h2, rfl, k _ G H (.refl s) h6⟩
theorem v_l20 {r : Rep α} {r' : Rep β} : VR2 K (rIxL K) (rd (oL2 r r')) (ir rI) r gFst := fun G H v w a b c Q s ⟨L, ho, h1, h2, x, y, h3, h4, h5⟩ hi hg k => by
  subst h1 h3; cases hi
  obtain ⟨rfl, rfl⟩ := of_ite hg
  exact ⟨L, _, 0, x, rfl, rfl, sql_h h2, rfl, k _ G H (.refl s) h4⟩
theorem v_l21 {r : Rep α} {r' : Rep β} : VR2 K (rIxL K) (rd (oL2 r r')) (ir rI) r' gSnd := fun G H v w a b c Q s ⟨L, ho, h1, h2, x, y, h3, h4, h5⟩ hi hg k => by
  subst h1 h3; cases hi
  obtain ⟨rfl, rfl⟩ := of_ite hg
  exact ⟨L, _, 1, y, rfl, rfl, sql_h h2, rfl, k _ G H (.refl s) h5⟩
theorem v_l30 {r : Rep α} {r' : Rep β} {r'' : Rep γ} : VR2 K (rIxL K) (rd (oL3 r r' r'')) (ir rI) r gFst := fun G H v w a b c Q s ⟨L, ho, h1, h2, x, y, z, h3, h4, h5, h6⟩ hi hg k => by
  subst h1 h3; cases hi
  obtain ⟨rfl, rfl⟩ := of_ite hg
  exact ⟨L, _, 0, x, rfl, rfl, sql_h h2, rfl, k _ G H (.refl s) h4⟩
theorem v_l31 {r : Rep α} {r' : Rep β} {r'' : Rep γ} : VR2 K (rIxL K) (rd (oL3 r r' r'')) (ir rI) r' g31 := fun G H v w a b c Q s ⟨L, ho, h1, h2, x, y, z, h3, h4, h5, h6⟩ hi hg k => by
  subst h1 h3; cases hi
  obtain ⟨rfl, rfl⟩ := of_ite hg
  exact ⟨L, _, 1, y, rfl, rfl, sql_h h2, rfl, k _ G H (.refl s) h5⟩
theorem v_l32 {r : Rep α} {r' : Rep β} {r'' : Rep γ} : VR2 K (rIxL K) (rd (oL3 r r' r'')) (ir rI) r'' g32 := fun G H v w a b c Q s ⟨L, ho, h1, h2, x, y, z, h3, h4, h5, h6⟩ hi hg k => by
  subst h1 h3; cases hi
  obtain ⟨rfl, rfl⟩ := of_ite hg
  exact ⟨L, _, 2, z, rfl, rfl, sql_h h2, rfl, k _ G H (.refl s) h6⟩
/-- xs + ys -/
def gCat (xs ys : List α) : Option (List α) := if xs.length + ys.length ≤ 1000000 then some (xs ++ ys) else none
theorem v_cat {r : Rep α} : VF2 K rCat (rd (oL r)) (rd (oL r)) (oL r) gCat := fun G H v w a b c Q s ⟨L, ho, h1, h2, vs, h3, h4⟩ ⟨L', ho', h1', h2', vs', h3', h4'⟩ hg k => by
  subst h1 h3 h1' h3'
  obtain ⟨hz, rfl⟩ := of_ite hg
  exact ⟨L, L', vs, vs', rfl, rfl, h2, h2', by rw [h4.length, h4'.length, sizeLine_eq]; omega, fun p hp => k p _ G _ (.own s hp) hp (s.no hp) upd_same ⟨_, rfl, h4.app h4'⟩⟩
theorem v_catT {r : Rep α} : VR2 K (rCatA K) (ir (rT r)) (ir (rT r)) (rT r) gCat := fun G H v w a b c Q s ⟨L, ho, h1, h2, vs, h3, h4⟩ ⟨L', ho', h1', h2', vs', h3', h4'⟩ hg k => by
  subst h1 h3 h1' h3'
  obtain ⟨hz, rfl⟩ := of_ite hg
  refine ⟨L, L', vs, vs', rfl, rfl, sqt_of s h2, sqt_of s h2', by rw [h4.length, h4'.length, sizeLine_eq]; omega, fun e => ?_, fun _ e => ?_, fun _ _ p hp => k (.ref p) _ _ (.new s hp) ⟨p, _, rfl, upd_same, _, rfl, (h4.app h4').mono fun _ _ => r.mono (sub_upd (s.no hp))⟩⟩
  · refine k (.ref L') G H (.refl s) ⟨L', _, rfl, h2', vs', rfl, ?_⟩
    subst e
    cases h4
    exact h4'
  · refine k (.ref L) G H (.refl s) ⟨L, _, rfl, h2, vs, rfl, ?_⟩
    subst e
    cases h4'
    rw [List.append_nil]
    exact h4
/-- xs * k -/
def gRep (xs : List α) (k : Int) : Option (List α) := if (-(2 ^ 62) ≤ k ∧ k < 2 ^ 62) ∧ xs.length * k.toNat ≤ 1000000 then some (List.replicate k.toNat xs).flatten else none
theorem A2.rep {R : α → β → Prop} {vs : List α} {xs : List β} (h : A2 R vs xs) : ∀ n : Nat, A2 R (List.replicate n vs).flatten (List.replicate n xs).flatten
  | 0 => .nil
  | n + 1 => by
    rw [List.replicate_succ, List.replicate_succ, List.flatten_cons, List.flatten_cons]
    exact h.app (h.rep n)
theorem v_rep {r : Rep α} : VF2 K rRep (rd (oL r)) (ir rI) (oL r) gRep := fun G H v w a b c Q s ⟨L, ho, h1, h2, vs, h3, h4⟩ hi hg k => by
  subst h1 h3; cases hi
  obtain ⟨hz, rfl⟩ := of_ite hg
  exact ⟨L, b, vs, rfl, rfl, h2, by omega, by omega, by rw [h4.length, sizeLine_eq]; omega, fun p hp => k p _ G _ (.own s hp) hp (s.no hp) upd_same ⟨_, rfl, h4.rep _⟩⟩
/-- slices -/
def cutL (xs : List α) (lo hi : Option Int) : List α := (xs.drop (HT.sIx xs.length 0 lo)).take (HT.sIx xs.length xs.length hi - HT.sIx xs.length 0 lo)
def gCut (xs : List α) (lo hi : Option Int) : Option (List α) := some (cutL xs lo hi)
theorem A2.cut {R : V → β → Prop} {vs : List V} {xs : List β} {lo hi : Option Int} (h : A2 R vs xs) : A2 R (cutV vs lo hi) (cutL xs lo hi) := by
  unfold cutV cutL
  rw [h.length]
  exact h.drop.take
theorem v_slL {r : Rep α} : VSlF K (rSlL K) (rd (oL r)) (oL r) gCut := fun lo hi G H v a b Q s ⟨L, ho, h1, h2, vs, h3, h4⟩ hg k => by
  subst h1 h3; cases hg
  exact ⟨L, vs, rfl, sql_h h2, fun p hp => k p _ G _ (.own s hp) hp (s.no hp) upd_same ⟨_, rfl, h4.cut⟩⟩
theorem v_slT {r : Rep α} : VSl K (rSlA K) (ir (rT r)) (rT r) gCut := fun lo hi G H v a b Q s ⟨L, ho, h1, h2, vs, h3, h4⟩ hg k => by
  subst h1 h3; cases hg
  refine ⟨L, vs, rfl, sqt_of s h2, fun e => k (.ref L) G H (.refl s) ⟨L, _, rfl, h2, vs, rfl, ?_⟩, fun _ p hp => k (.ref p) _ _ (.new s hp) ⟨p, _, rfl, upd_same, _, rfl, h4.cut.mono fun _ _ => r.mono (sub_upd (s.no hp))⟩⟩
  unfold cutL
  rw [← h4.length, e.1, e.2, List.drop_zero, Nat.sub_zero, h4.length, List.take_length]
  exact h4
/-- tuple(xs), list(xs) -/
def gId (xs : List α) : Option (List α) := some xs
theorem v_tupOfL {r : Rep α} : VR K (rTupOf K) (aOne (rd (oL r))) (rT r) gId := fun G H v a b Q s ⟨x, h0, L, ho, h1, h2, vs, h3, h4⟩ hg k => by
  cases hg; subst h0 h1 h3
  exact ⟨L, vs, rfl, .inl ⟨sql_h h2, fun p hp => k (.ref p) _ _ (.new s hp) ⟨p, _, rfl, upd_same, _, rfl, h4.mono fun _ _ => r.mono (sub_upd (s.no hp))⟩⟩⟩
theorem v_tupOfT {r : Rep α} : VR K (rTupOf K) (aOne (ir (rT r))) (rT r) gId := fun G H v a b Q s ⟨x, h0, L, ho, h1, h2, vs, h3, h4⟩ hg k => by
  cases hg; subst h0 h1 h3
  exact ⟨L, vs, rfl, .inr ⟨sqt_of s h2, k (.ref L) G H (.refl s) ⟨L, _, rfl, h2, vs, rfl, h4⟩⟩⟩
theorem v_lstOfL {r : Rep α} : VF K (rListOf K) (aOne (rd (oL r))) (oL r) gId := fun G H v a b Q s ⟨x, h0, L, ho, h1, h2, vs, h3, h4⟩ hg k => by
  cases hg; subst h0 h1 h3
  exact ⟨L, vs, rfl, .inl (sql_h h2), fun p hp => k p _ G _ (.own s hp) hp (s.no hp) upd_same ⟨_, rfl, h4⟩⟩
theorem v_lstOfT {r : Rep α} : VF K (rListOf K) (aOne (rd (oT r))) (oL r) gId := fun G H v a b Q s ⟨x, h0, L, ho, h1, h2, vs, h3, h4⟩ hg k => by
  cases hg; subst h0 h1 h3
  exact ⟨L, vs, rfl, .inr (sqt_h h2), fun p hp => k p _ G _ (.own s hp) hp (s.no hp) upd_same ⟨_, rfl, h4⟩⟩
theorem v_lstOfS : VF K (rListOf K) (aOne (ir rScr)) (oL rI) gId := fun G H v a b Q s ⟨x, h0, hS⟩ hg k => by
  cases hg; subst h0
  obtain ⟨L, rfl, hf⟩ := rScr.mono s hS
  exact ⟨L, _, rfl, .inl hf.sql, fun p hp => k p _ G _ (.own s hp) hp (s.no hp) upd_same ⟨_, rfl, .ofMap fun _ _ => rfl⟩⟩
/-- list(range(n)), tuple(range(n)) -/
theorem rgV_rng (a b : Int) : rgV a b = (rng a b).map V.int := by
  unfold rgV rng
  rw [List.map_map]
  rfl
def gRg (n : Int) : Option (List Int) := if 0 ≤ n ∧ n ≤ 1000000 then some (rng 0 n) else none
theorem x_lstRg {ε : Type} {M : Mx} {R : ERep ε} {t : TE} {m : ε → Rs ε Int} (h : EX M R t (is (ir rI)) m) : EX M R (tLstRg (tRg1 t)) (fs (oL rI)) (mUn gRg m) :=
  x_unF (t := t) (T := fun (x : V) (H : Hp) (Q : VK) => ∃ n, x = .int n ∧ RgOk 0 n ∧ ∀ q, H q = none → Q (.ref q) (upd H q (.lst (rgV 0 n)))) (fun G H v a b Q s h1 hg k => by
    obtain ⟨hz, rfl⟩ := of_ite hg
    refine ⟨a, h1, ⟨by decide, by decide, by omega, by omega, by omega⟩, fun p hp => k p _ G _ (.own s hp) hp (s.no hp) upd_same ⟨_, rfl, ?_⟩⟩
    rw [rgV_rng]
    exact .ofMap fun _ _ => rfl) h
theorem x_tupRg {ε : Type} {M : Mx} {R : ERep ε} {t : TE} {m : ε → Rs ε Int} (h : EX M R t (is (ir rI)) m) : EX M R (tTupRg (tRg1 t)) (fz (rT rI)) (mUn gRg m) :=
  x_un (t := t) (T := fun (x : V) (H : Hp) (Q : VK) => ∃ n, x = .int n ∧ RgOk 0 n ∧ ∀ q, H q = none → Q (.ref q) (upd H q (.tup (rgV 0 n)))) (fun G H v a b Q s h1 hg k => by
    obtain ⟨hz, rfl⟩ := of_ite hg
    refine ⟨a, h1, ⟨by decide, by decide, by omega, by omega, by omega⟩, fun p hp => k (.ref p) _ _ (.new s hp) ⟨p, _, rfl, upd_same, _, rfl, ?_⟩⟩
    rw [rgV_rng]
    exact .ofMap fun _ _ => rfl) h
/-- xs[::-1] -/
def gRev (xs : List α) : Option (List α) := some xs.reverse
theorem x_revL {ε : Type} {M : Mx} {R : ERep ε} {t : TE} {r : Rep α} {m : ε → Rs ε (List α)} (h : EX M R t (is (rd (oL r))) m) : EX M R (tRevL M.K t) (fs (oL r)) (mUn gRev m) :=
  x_unF (t := t) (T := fun (x : V) (H : Hp) (Q : VK) => ∃ a xs, x = .ref a ∧ SqL M.K H a xs ∧ ∀ p, H p = none → Q (.ref p) (upd H p (.lst xs.reverse))) (fun G H v a b Q s ⟨L, ho, h1, h2, vs, h3, h4⟩ hg k => by
    subst h1 h3; cases hg
    exact ⟨L, vs, rfl, sql_h h2, fun p hp => k p _ G _ (.own s hp) hp (s.no hp) upd_same ⟨_, rfl, h4.rev⟩⟩) h
/-! ### in -/
def gIn [DecidableEq α] (a : α) (xs : List α) : Option Bool := some (decide (a ∈ xs))
def gNin [DecidableEq α] (a : α) (xs : List α) : Option Bool := some (!decide (a ∈ xs))
theorem ints_of {G : Hp} {vs : List V} {ns : List Int} (h : A2 (rI.rel K G) vs ns) : vs = ns.map V.int := A2.eqMap h
theorem v_inLI : VR2 K (rIn K false) (ir rI) (rd (oL rI)) rB gIn := fun G H v w a b c Q s h1 ⟨L, ho, h2, h3, vs, h4, h5⟩ hg k => by
  subst h2 h4; cases h1; cases hg
  obtain rfl := ints_of h5
  exact ⟨L, _, rfl, .inl (sql_h h3), rfl, flat_ints b, by rw [if_neg (by decide), inV_int]; exact k _ G H (.refl s) rfl⟩
theorem v_ninLI : VR2 K (rIn K true) (ir rI) (rd (oL rI)) rB gNin := fun G H v w a b c Q s h1 ⟨L, ho, h2, h3, vs, h4, h5⟩ hg k => by
  subst h2 h4; cases h1; cases hg
  obtain rfl := ints_of h5
  exact ⟨L, _, rfl, .inl (sql_h h3), rfl, flat_ints b, by rw [if_pos rfl, inV_int]; exact k _ G H (.refl s) rfl⟩
theorem v_inTI : VR2 K (rIn K false) (ir rI) (rd (oT rI)) rB gIn := fun G H v w a b c Q s h1 ⟨L, ho, h2, h3, vs, h4, h5⟩ hg k => by
  subst h2 h4; cases h1; cases hg
  obtain rfl := ints_of h5
  exact ⟨L, _, rfl, .inr (sqt_h h3), rfl, flat_ints b, by rw [if_neg (by decide), inV_int]; exact k _ G H (.refl s) rfl⟩
theorem v_ninTI : VR2 K (rIn K true) (ir rI) (rd (oT rI)) rB gNin := fun G H v w a b c Q s h1 ⟨L, ho, h2, h3, vs, h4, h5⟩ hg k => by
  subst h2 h4; cases h1; cases hg
  obtain rfl := ints_of h5
  exact ⟨L, _, rfl, .inr (sqt_h h3), rfl, flat_ints b, by rw [if_pos rfl, inV_int]; exact k _ G H (.refl s) rfl⟩
end
section
variable {K : PySem.W.Frag} {α β γ ε ρ : Type} {w : World} {P : Program}
/-! ### data -/
structure En (α : Type) where
  enc : α → PyData
  lay : ∀ a, (enc a).canLay0 = true
  dn : Nat
  dep : ∀ a, (enc a).depth ≤ dn
def EnEq [DecidableEq α] (E : En α) : Prop := ∀ a b, PyData.eqv (E.enc a) (E.enc b) = decide (a = b)
def Da (i : IR V α) (E : En α) : Prop := ∀ K G H v a, Sub G H → i K G H v a → Dp K H v (E.enc a)
theorem En.shaped (E : En α) (h : E.dn ≤ 60) (a : α) : SeqAt.shaped (E.enc a) = true := by
  unfold SeqAt.shaped
  rw [E.lay, Bool.true_and]
  exact decide_eq_true (Nat.le_trans (E.dep a) (by omega))
def enI : En Int := ⟨.int, fun _ => by simp [PyData.canLay0], 0, fun _ => by simp [PyData.depth]⟩
def enB : En Bool := ⟨.bool, fun _ => by simp [PyData.canLay0], 0, fun _ => by simp [PyData.depth]⟩
def enN : En Unit := ⟨fun _ => .none, fun _ => by simp [PyData.canLay0], 0, fun _ => by simp [PyData.depth]⟩
theorem layAll {xs : List PyData} (h : ∀ x ∈ xs, x.canLay0 = true) : PyData.canLayAll0 xs = true := by
  induction xs with
  | nil => simp [PyData.canLayAll0]
  | cons x xs ih =>
    simp only [PyData.canLayAll0, h x List.mem_cons_self, ih fun y hy => h y (List.mem_cons_of_mem _ hy), Bool.and_true]
def enL (E : En α) : En (List α) := ⟨fun xs => .list (xs.map E.enc), fun xs => by
    unfold PyData.canLay0
    exact layAll fun x hx => by obtain ⟨y, _, rfl⟩ := List.mem_map.mp hx; exact E.lay y, E.dn + 1, fun xs => by
    have := depthAll_le (m := E.dn) (xs := xs.map E.enc) fun x hx => by obtain ⟨y, _, rfl⟩ := List.mem_map.mp hx; exact E.dep y
    simp only [PyData.depth]
    omega⟩
def enT (E : En α) : En (List α) := ⟨fun xs => .tuple (xs.map E.enc), fun xs => by
    unfold PyData.canLay0
    exact layAll fun x hx => by obtain ⟨y, _, rfl⟩ := List.mem_map.mp hx; exact E.lay y, E.dn + 1, fun xs => by
    have := depthAll_le (m := E.dn) (xs := xs.map E.enc) fun x hx => by obtain ⟨y, _, rfl⟩ := List.mem_map.mp hx; exact E.dep y
    simp only [PyData.depth]
    omega⟩
def enT2 (E : En α) (E' : En β) : En (α × β) := ⟨fun p => .tuple [E.enc p.1, E'.enc p.2], fun p => by
    unfold PyData.canLay0
    simp [PyData.canLayAll0, E.lay, E'.lay], max E.dn E'.dn + 1, fun p => by
    have h1 := E.dep p.1
    have h2 := E'.dep p.2
    simp only [PyData.depth, PyData.depthAll]
    omega⟩
def enL2 (E : En α) (E' : En β) : En (α × β) := ⟨fun p => .list [E.enc p.1, E'.enc p.2], fun p => by
    unfold PyData.canLay0
    simp [PyData.canLayAll0, E.lay, E'.lay], max E.dn E'.dn + 1, fun p => by
    have h1 := E.dep p.1
    have h2 := E'.dep p.2
    simp only [PyData.depth, PyData.depthAll]
    omega⟩
def enT3 (E : En α) (E' : En β) (E'' : En γ) : En (α × β × γ) := ⟨fun p => .tuple [E.enc p.1, E'.enc p.2.1, E''.enc p.2.2], fun p => by
    unfold PyData.canLay0
    simp [PyData.canLayAll0, E.lay, E'.lay, E''.lay], max E.dn (max E'.dn E''.dn) + 1, fun p => by
    have h1 := E.dep p.1
    have h2 := E'.dep p.2.1
    have h3 := E''.dep p.2.2
    simp only [PyData.depth, PyData.depthAll]
    omega⟩
def enL3 (E : En α) (E' : En β) (E'' : En γ) : En (α × β × γ) := ⟨fun p => .list [E.enc p.1, E'.enc p.2.1, E''.enc p.2.2], fun p => by
    unfold PyData.canLay0
    simp [PyData.canLayAll0, E.lay, E'.lay, E''.lay], max E.dn (max E'.dn E''.dn) + 1, fun p => by
    have h1 := E.dep p.1
    have h2 := E'.dep p.2.1
    have h3 := E''.dep p.2.2
    simp only [PyData.depth, PyData.depthAll]
    omega⟩
def enO (E : En α) : En (Option α) := ⟨fun o => match o with | none => .none | some a => E.enc a, fun o => by
    cases o with
    | none => simp [PyData.canLay0]
    | some a => exact E.lay a, E.dn, fun o => by
    cases o with
    | none => simp [PyData.depth]
    | some a => exact E.dep a⟩
theorem da_I : Da (ir rI) enI := fun K G H v a s h => by cases h; exact .int a
theorem da_B : Da (ir rB) enB := fun K G H v a s h => by cases h; exact .bl a
theorem da_N : Da (ir rN) enN := fun K G H v a s h => by cases h; exact .non
theorem dpAll {r : Rep α} {E : En α} (d : Da (ir r) E) {G H : Hp} {vs : List V} {as : List α} (s : Sub G H) (h : A2 (r.rel K G) vs as) : DpAll K H vs (as.map E.enc) := by
  induction h with
  | nil => exact .nil
  | cons h _ ih => exact .cons (d _ _ _ _ _ s h) ih
theorem da_Lr {r : Rep α} {E : En α} (d : Da (ir r) E) : Da (rd (oL r)) (enL E) := fun K G H v a s ⟨L, ho, h1, h2, vs, h3, h4⟩ => by
  subst h1 h3
  exact .lst (sql_h h2) (dpAll d s h4)
theorem da_Tr {r : Rep α} {E : En α} (d : Da (ir r) E) : Da (rd (oT r)) (enT E) := fun K G H v a s ⟨L, ho, h1, h2, vs, h3, h4⟩ => by
  subst h1 h3
  exact .tup (sqt_h h2) (dpAll d s h4)
theorem Da.z {q : ORep α} {E : En α} (d : Da (rd q) E) : Da (ir (rz q)) E := fun K G H v a s h => d K G H v a s (Cv.ob _ _ _ _ _ s h)
theorem da_L {r : Rep α} {E : En α} (d : Da (ir r) E) : Da (ir (rL r)) (enL E) := (da_Lr d).z
theorem da_T {r : Rep α} {E : En α} (d : Da (ir r) E) : Da (ir (rT r)) (enT E) := (da_Tr d).z
theorem da_T2 {r : Rep α} {r' : Rep β} {E : En α} {E' : En β} (d : Da (ir r) E) (d' : Da (ir r') E') : Da (ir (rT2 r r')) (enT2 E E') := Da.z fun K G H v a s ⟨L, ho, h1, h2, x, y, h3, h4, h5⟩ => by
  subst h1 h3
  exact .tup (sqt_h h2) (.cons (d _ _ _ _ _ s h4) (.cons (d' _ _ _ _ _ s h5) .nil))
theorem da_L2 {r : Rep α} {r' : Rep β} {E : En α} {E' : En β} (d : Da (ir r) E) (d' : Da (ir r') E') : Da (ir (rL2 r r')) (enL2 E E') := Da.z fun K G H v a s ⟨L, ho, h1, h2, x, y, h3, h4, h5⟩ => by
  subst h1 h3
  exact .lst (sql_h h2) (.cons (d _ _ _ _ _ s h4) (.cons (d' _ _ _ _ _ s h5) .nil))
theorem da_T3 {r : Rep α} {r' : Rep β} {r'' : Rep γ} {E : En α} {E' : En β} {E'' : En γ} (d : Da (ir r) E) (d' : Da (ir r') E') (d'' : Da (ir r'') E'') : Da (ir (rT3 r r' r'')) (enT3 E E' E'') := Da.z fun K G H v a s ⟨L, ho, h1, h2, x, y, z, h3, h4, h5, h6⟩ => by
  subst h1 h3
  exact .tup (sqt_h h2) (.cons (d _ _ _ _ _ s h4) (.cons (d' _ _ _ _ _ s h5) (.cons (d'' _ _ _ _ _ s h6) .nil)))
theorem da_L3 {r : Rep α} {r' : Rep β} {r'' : Rep γ} {E : En α} {E' : En β} {E'' : En γ} (d : Da (ir r) E) (d' : Da (ir r') E') (d'' : Da (ir r'') E'') : Da (ir (rL3 r r' r'')) (enL3 E E' E'') := Da.z fun K G H v a s ⟨L, ho, h1, h2, x, y, z, h3, h4, h5, h6⟩ => by
  subst h1 h3
  exact .lst (sql_h h2) (.cons (d _ _ _ _ _ s h4) (.cons (d' _ _ _ _ _ s h5) (.cons (d'' _ _ _ _ _ s h6) .nil)))
theorem da_O {r : Rep α} {E : En α} (d : Da (ir r) E) : Da (ir (rO r)) (enO E) := fun K G H v a s h => by
  cases a with
  | none => rw [show v = .non from h]; exact .non
  | some x => exact d _ _ _ _ _ s h.2
theorem eq_I : EnEq enI := fun a b => by simp [enI, PyData.eqv]; rfl
theorem eq_B : EnEq enB := fun a b => by simp [enB, PyData.eqv]; cases a <;> cases b <;> rfl
theorem eq_N : EnEq enN := fun a b => by simp [enN, PyData.eqv]
theorem eqvAll_map [DecidableEq α] {E : En α} (h : EnEq E) : ∀ xs ys : List α, PyData.eqvAll (xs.map E.enc) (ys.map E.enc) = decide (xs = ys)
  | [], [] => by simp [PyData.eqvAll]
  | [], _ :: _ => by simp [PyData.eqvAll]
  | _ :: _, [] => by simp [PyData.eqvAll]
  | x :: xs, y :: ys => by
    simp only [List.map_cons, PyData.eqvAll, h x y, eqvAll_map h xs ys]
    rw [Bool.eq_iff_iff]
    simp
theorem eq_L [DecidableEq α] {E : En α} (h : EnEq E) : EnEq (enL E) := fun xs ys => by simp only [enL, PyData.eqv]; exact eqvAll_map h xs ys
theorem eq_T [DecidableEq α] {E : En α} (h : EnEq E) : EnEq (enT E) := fun xs ys => by simp only [enT, PyData.eqv]; exact eqvAll_map h xs ys
theorem eq_T2 [DecidableEq α] [DecidableEq β] {E : En α} {E' : En β} (h : EnEq E) (h' : EnEq E') : EnEq (enT2 E E') := fun x y => by
  simp only [enT2, PyData.eqv, PyData.eqvAll, h x.1 y.1, h' x.2 y.2]
  rw [Bool.eq_iff_iff]
  simp [Prod.ext_iff]
theorem eq_T3 [DecidableEq α] [DecidableEq β] [DecidableEq γ] {E : En α} {E' : En β} {E'' : En γ} (h : EnEq E) (h' : EnEq E') (h'' : EnEq E'') : EnEq (enT3 E E' E'') := fun x y => by
  simp only [enT3, PyData.eqv, PyData.eqvAll, h x.1 y.1, h' x.2.1 y.2.1, h'' x.2.2 y.2.2]
  rw [Bool.eq_iff_iff]
  simp [Prod.ext_iff]
theorem v_eqD [DecidableEq α] {i i' : IR V α} {E : En α} (d : Da i E) (d' : Da i' E) (h : EnEq E) (hn : E.dn ≤ 60) : VR2 K (rEqD K) i i' rB gEq := fun G H v w a b c Q s h1 h2 hg k => by
  cases hg
  exact ⟨_, _, d _ _ _ _ _ s h1, d' _ _ _ _ _ s h2, E.shaped hn a, E.shaped hn b, by rw [h]; exact k _ G H (.refl s) rfl⟩
theorem v_neD [DecidableEq α] {i i' : IR V α} {E : En α} (d : Da i E) (d' : Da i' E) (h : EnEq E) (hn : E.dn ≤ 60) : VR2 K (rNeD K) i i' rB gNe := fun G H v w a b c Q s h1 h2 hg k => by
  cases hg
  exact ⟨_, _, d _ _ _ _ _ s h1, d' _ _ _ _ _ s h2, E.shaped hn a, E.shaped hn b, by rw [h]; exact k _ G H (.refl s) rfl⟩
theorem any_enc [DecidableEq α] {E : En α} (h : EnEq E) (a : α) : ∀ xs : List α, ((xs.map E.enc).any fun z => PyData.eqv z (E.enc a)) = decide (a ∈ xs)
  | [] => by simp
  | x :: xs => by
    rw [List.map_cons, List.any_cons, any_enc h a xs, h]
    by_cases e : x = a
    · subst e
      rw [decide_eq_true rfl, Bool.true_or, decide_eq_true List.mem_cons_self]
    · have e' : ¬ a = x := fun z => e z.symm
      rw [decide_eq_false e, Bool.false_or]
      exact decide_eq_decide.mpr ⟨fun m => List.mem_cons_of_mem _ m, fun m => (List.mem_cons.mp m).elim (fun z => absurd z e') id⟩
theorem v_inD [DecidableEq α] {i : IR V α} {i' : IR V (List α)} {E : En α} (d : Da i E) (d' : Da i' (enL E)) (h : EnEq E) (hn : E.dn ≤ 59) : VR2 K (rInD K) i i' rB gIn := fun G H v w a b c Q s h1 h2 hg k => by
  cases hg
  exact ⟨_, _, d _ _ _ _ _ s h1, d' _ _ _ _ _ s h2, E.shaped (by omega) a, (enL E).shaped (by show E.dn + 1 ≤ 60; omega) b, by rw [any_enc h]; exact k _ G H (.refl s) rfl⟩
theorem v_ninD [DecidableEq α] {i : IR V α} {i' : IR V (List α)} {E : En α} (d : Da i E) (d' : Da i' (enL E)) (h : EnEq E) (hn : E.dn ≤ 59) : VR2 K (rNotInD K) i i' rB gNin := fun G H v w a b c Q s h1 h2 hg k => by
  cases hg
  exact ⟨_, _, d _ _ _ _ _ s h1, d' _ _ _ _ _ s h2, E.shaped (by omega) a, (enL E).shaped (by show E.dn + 1 ≤ 60; omega) b, by rw [any_enc h]; exact k _ G H (.refl s) rfl⟩
/-- repr of a list or a tuple -/
def rpOk (d : PyData) : Bool := small 80 d && decide (cost 80 d ≤ 16777216)
def gRepr (E : En α) (a : α) : Option Str := if rpOk (E.enc a) = true then some (E.enc a).shown else none
theorem v_repr {i : IR V α} {E : En α} (d : Da i E) (hn : E.dn ≤ 60) (hi : ∀ K G H v a, i K G H v a → ∃ L, v = .ref L) : VR K (rReprD K) (aOne i) rS (gRepr E) := fun G H v a b Q s ⟨x, h0, h1⟩ hg k => by
  subst h0
  obtain ⟨L, rfl⟩ := hi _ _ _ _ _ h1
  obtain ⟨hz, rfl⟩ := of_ite hg
  simp only [rpOk, Bool.and_eq_true, decide_eq_true_eq] at hz
  exact ⟨L, _, 80, rfl, d _ _ _ _ _ s h1, Nat.le_trans (E.dep a) hn, by decide, hz.1, by rw [sizeLine_eq]; exact hz.2, k _ G H (.refl s) rfl⟩
theorem rd_ref {q : ORep α} : ∀ K G H v a, rd q K G H v a → ∃ L, v = .ref L := fun _ _ _ _ _ ⟨L, _, h, _⟩ => ⟨L, h⟩
theorem rz_ref {q : ORep α} : ∀ K G H v a, ir (rz q) K G H v a → ∃ L, v = .ref L := fun _ _ _ _ _ ⟨L, _, h, _⟩ => ⟨L, h⟩
/-! ### built-ins of lists -/
theorem v_sum : VR K (rSum K) (aOne (rd (oL rI))) rI (fun ns => some ns.sum) := fun G H v a b Q s ⟨x, h0, L, ho, h1, h2, vs, h3, h4⟩ hg k => by
  cases hg; subst h0 h1 h3
  obtain rfl := ints_of h4
  exact ⟨L, a, rfl, sql_h h2, k _ G H (.refl s) rfl⟩
theorem bools_of {G : Hp} {vs : List V} {ns : List Bool} (h : A2 (rB.rel K G) vs ns) : vs = ns.map V.bl := A2.eqMap h
def gAll (bs : List Bool) : Option Bool := some (bs.all id)
def gAny (bs : List Bool) : Option Bool := some (bs.any id)
def gSum (ns : List Int) : Option Int := some ns.sum
theorem v_all : VR K (rAll K) (aOne (rd (oL rB))) rB gAll := fun G H v a b Q s ⟨x, h0, L, ho, h1, h2, vs, h3, h4⟩ hg k => by
  cases hg; subst h0 h1 h3
  obtain rfl := bools_of h4
  exact ⟨L, a, rfl, sql_h h2, k _ G H (.refl s) rfl⟩
theorem v_any : VR K (rAny K) (aOne (rd (oL rB))) rB gAny := fun G H v a b Q s ⟨x, h0, L, ho, h1, h2, vs, h3, h4⟩ hg k => by
  cases hg; subst h0 h1 h3
  obtain rfl := bools_of h4
  exact ⟨L, a, rfl, sql_h h2, k _ G H (.refl s) rfl⟩
/-- the greatest of some numbers -/
def maxL : List Int → Int
  | [] => 0
  | [x] => x
  | x :: y :: xs => max x (maxL (y :: xs))
theorem maxL_mem : ∀ {xs : List Int}, xs ≠ [] → maxL xs ∈ xs
  | [], h => absurd rfl h
  | [x], _ => by simp [maxL]
  | x :: y :: xs, _ => by
    have := maxL_mem (xs := y :: xs) (by simp)
    unfold maxL
    rcases Int.le_total x (maxL (y :: xs)) with h | h
    · rw [Int.max_eq_right h]
      exact List.mem_cons_of_mem _ this
    · rw [Int.max_eq_left h]
      exact List.mem_cons_self
theorem le_maxL : ∀ {xs : List Int} {x : Int}, x ∈ xs → x ≤ maxL xs
  | [x], y, h => by simp at h; subst h; exact Int.le_refl _
  | x :: y :: xs, z, h => by
    unfold maxL
    rcases List.mem_cons.mp h with rfl | h
    · omega
    · have := le_maxL h
      omega
def gMax (ns : List Int) : Option Int := if 0 < ns.length then some (maxL ns) else none
theorem v_max : VR K (rMax K) (aOne (rd (oL rI))) rI gMax := fun G H v a b Q s ⟨x, h0, L, ho, h1, h2, vs, h3, h4⟩ hg k => by
  subst h0 h1 h3
  obtain ⟨hz, rfl⟩ := of_ite hg
  obtain rfl := ints_of h4
  have hne : a ≠ [] := by intro z; subst z; simp at hz
  refine ⟨L, a, rfl, sql_h h2, hz, fun m hm hl => ?_⟩
  rw [show m = maxL a from Int.le_antisymm (le_maxL hm) (hl _ (maxL_mem hne))]
  exact k _ G H (.refl s) rfl
def absI (i : Int) : Int := if i < 0 then -i else i
theorem absI_nonneg (i : Int) : 0 ≤ absI i := by unfold absI; split <;> omega
def gAbs (i : Int) : Option Int := some (absI i)
theorem v_abs : VR K rAbs (aOne (ir rI)) rI gAbs := fun G H v a b Q s ⟨x, h0, h1⟩ hg k => by
  cases hg; cases h1; subst h0
  exact ⟨a, rfl, k _ G H (.refl s) rfl⟩
def gIntB (b : Bool) : Option Int := some (if b = true then 1 else 0)
theorem v_intB : VR K rIntB (aOne (ir rB)) rI gIntB := fun G H v a b Q s ⟨x, h0, h1⟩ hg k => by
  cases hg; cases h1; subst h0
  exact w_intB (k _ G H (.refl s) rfl)
/-- sorted(xs) of numbers -/
def srt (ns : List Int) : List Int := ns.mergeSort leI
theorem srt_perm (ns : List Int) : (srt ns).Perm ns := List.mergeSort_perm _ _
theorem srt_pw (ns : List Int) : (srt ns).Pairwise (· ≤ ·) :=
  (List.pairwise_mergeSort (le := leI) (fun a b c h1 h2 => by simp only [leI, decide_eq_true_eq] at *; omega) (fun a b => by simp only [leI, Bool.or_eq_true, decide_eq_true_eq]; omega) ns).imp fun h => of_decide_eq_true h
theorem srt_eq {ns ms : List Int} (p : ms.Perm ns) (h : ms.Pairwise (· ≤ ·)) : ms = srt ns :=
  List.Perm.eq_of_pairwise (fun x y _ _ h1 h2 => Int.le_antisymm h1 h2) h (srt_pw ns) (p.trans (srt_perm ns).symm)
def gSort (ns : List Int) : Option (List Int) := if ns.length ≤ 1000000 then some (srt ns) else none
theorem v_sortL : VF K (rSortedI K) (aOne (rd (oL rI))) (oL rI) gSort := fun G H v a b Q s ⟨x, h0, L, ho, h1, h2, vs, h3, h4⟩ hg k => by
  subst h0 h1 h3
  obtain ⟨hz, rfl⟩ := of_ite hg
  obtain rfl := ints_of h4
  refine ⟨L, a, rfl, sql_h h2, fun ns' p pm pw hp => ?_⟩
  rw [srt_eq pm pw]
  exact k p _ G _ (.own s hp) hp (s.no hp) upd_same ⟨_, rfl, .ofMap fun _ _ => rfl⟩
theorem v_sortT : VF K (rSortTI K) (aOne (rd (oT rI))) (oL rI) gSort := fun G H v a b Q s ⟨x, h0, L, ho, h1, h2, vs, h3, h4⟩ hg k => by
  subst h0 h1 h3
  obtain ⟨hz, rfl⟩ := of_ite hg
  obtain rfl := ints_of h4
  exact ⟨L, a, rfl, sqt_h h2, hz, fun p hp => k p _ G _ (.own s hp) hp (s.no hp) upd_same ⟨_, rfl, .ofMap fun _ _ => rfl⟩⟩
/-! ### sets of numbers -/
def rSet (w : World) : Rep (List Int) := ⟨fun K G v ns => ∃ L c, v = .ref L ∧ G L = some (SetO w L (fun j => decide (j ∈ ns)) c) ∧ c ≤ ns.length, fun s ⟨L, c, h1, h2, h3⟩ => ⟨L, c, h1, s _ _ h2, h3⟩⟩
def gSet (ns : List Int) : Option (List Int) := if ns.length ≤ 1000 then some ns else none
theorem v_setT : VR K (rSetS K w) (aOne (rd (oT rI))) (rSet w) gSet := fun G H v a b Q s ⟨x, h0, L, ho, h1, h2, vs, h3, h4⟩ hg k => by
  subst h0 h1 h3
  obtain ⟨hz, rfl⟩ := of_ite hg
  obtain rfl := ints_of h4
  exact ⟨L, a, rfl, .inr (sqt_h h2), hz, fun p c hc hp => k (.ref p) _ _ (.new s hp) ⟨p, c, rfl, upd_same, hc⟩⟩
theorem v_setL : VR K (rSetI K w) (aOne (rd (oL rI))) (rSet w) gSet := fun G H v a b Q s ⟨x, h0, L, ho, h1, h2, vs, h3, h4⟩ hg k => by
  subst h0 h1 h3
  obtain ⟨hz, rfl⟩ := of_ite hg
  obtain rfl := ints_of h4
  exact ⟨L, a, rfl, sql_h h2, hz, fun p c hc hp => k (.ref p) _ _ (.new s hp) ⟨p, c, rfl, upd_same, hc⟩⟩
/-- rising, each once -/
def insS (x : Int) : List Int → List Int
  | [] => [x]
  | y :: ys => if x < y then x :: y :: ys else if x = y then y :: ys else y :: insS x ys
def sset (ns : List Int) : List Int := ns.foldr insS []
theorem insS_mem {x z : Int} : ∀ {ys : List Int}, z ∈ insS x ys ↔ z = x ∨ z ∈ ys
  | [] => by simp [insS]
  | y :: ys => by
    unfold insS
    by_cases h : x < y
    · rw [if_pos h]; simp
    · rw [if_neg h]
      by_cases e : x = y
      · rw [if_pos e]; subst e; simp
      · rw [if_neg e, List.mem_cons, insS_mem, List.mem_cons]
        constructor
        · rintro (h | h | h)
          · exact .inr (.inl h)
          · exact .inl h
          · exact .inr (.inr h)
        · rintro (h | h | h)
          · exact .inr (.inl h)
          · exact .inl h
          · exact .inr (.inr h)
theorem insS_pw {x : Int} : ∀ {ys : List Int}, ys.Pairwise (· < ·) → (insS x ys).Pairwise (· < ·)
  | [], _ => by simp [insS]
  | y :: ys, h => by
    obtain ⟨h1, h2⟩ := List.pairwise_cons.mp h
    unfold insS
    by_cases hl : x < y
    · rw [if_pos hl]
      exact List.pairwise_cons.mpr ⟨fun z hz => by
        rcases List.mem_cons.mp hz with rfl | hz
        · exact hl
        · have := h1 z hz; omega, h⟩
    · rw [if_neg hl]
      by_cases e : x = y
      · rw [if_pos e]; exact h
      · rw [if_neg e]
        refine List.pairwise_cons.mpr ⟨fun z hz => ?_, insS_pw h2⟩
        rcases insS_mem.mp hz with rfl | hz
        · omega
        · exact h1 z hz
theorem sset_mem {z : Int} : ∀ {ns : List Int}, z ∈ sset ns ↔ z ∈ ns
  | [] => by simp [sset]
  | n :: ns => by
    show z ∈ insS n (sset ns) ↔ _
    rw [insS_mem, sset_mem, List.mem_cons]
theorem sset_pw : ∀ ns : List Int, (sset ns).Pairwise (· < ·)
  | [] => by simp [sset]
  | n :: ns => insS_pw (sset_pw ns)
theorem rise_eq : ∀ {xs ys : List Int}, xs.Pairwise (· < ·) → ys.Pairwise (· < ·) → (∀ z, z ∈ xs ↔ z ∈ ys) → xs = ys
  | [], [], _, _, _ => rfl
  | [], y :: ys, _, _, h => absurd ((h y).mpr List.mem_cons_self) List.not_mem_nil
  | x :: xs, [], _, _, h => absurd ((h x).mp List.mem_cons_self) List.not_mem_nil
  | x :: xs, y :: ys, hx, hy, h => by
    obtain ⟨hx1, hx2⟩ := List.pairwise_cons.mp hx
    obtain ⟨hy1, hy2⟩ := List.pairwise_cons.mp hy
    have e : x = y := by
      rcases List.mem_cons.mp ((h x).mp List.mem_cons_self) with e | m
      · exact e
      · rcases List.mem_cons.mp ((h y).mpr List.mem_cons_self) with e | m'
        · exact e.symm
        · have := hy1 x m
          have := hx1 y m'
          omega
    subst e
    rw [rise_eq hx2 hy2 fun z => ⟨fun m => ?_, fun m => ?_⟩]
    · rcases List.mem_cons.mp ((h z).mp (List.mem_cons_of_mem _ m)) with e | m'
      · have := hx1 z m; omega
      · exact m'
    · rcases List.mem_cons.mp ((h z).mpr (List.mem_cons_of_mem _ m)) with e | m'
      · have := hy1 z m; omega
      · exact m'
def gSset (ns : List Int) : Option (List Int) := if ns.length < 64 then some (sset ns) else none
theorem v_sortSet : VF K (rSortedSet w) (aOne (ir (rSet w))) (oL rI) gSset := fun G H v a b Q s ⟨x, h0, L, c, h1, h2, h3⟩ hg k => by
  subst h0 h1
  obtain ⟨hz, rfl⟩ := of_ite hg
  refine ⟨L, _, c, rfl, s _ _ h2, by omega, fun ns p pw hm hl hp => ?_⟩
  rw [show ns = sset a from rise_eq pw (sset_pw a) fun z => by rw [hm, decide_eq_true_eq, sset_mem]]
  exact k p _ G _ (.own s hp) hp (s.no hp) upd_same ⟨_, rfl, .ofMap fun _ _ => rfl⟩
/-! ## methods that change an object of one's own -/
def VM (K : PySem.W.Frag) (T : V → List V → Hp → VK → Prop) (q : ORep γ) (ra : GR (List V) α) (r : Rep β) (g : γ → α → Option (β × γ)) : Prop :=
  ∀ G H L ho st vs a b st' Q, Sub G H → H L = some ho → G L = none → q.rel K G ho st → ra.rel K G vs a → g st a = some (b, st') → (∀ v ho', q.rel K G ho' st' → r.rel K G v b → Q v (upd H L ho')) → T (.ref L) vs H Q
def Ty (T : String) (q : ORep γ) : Prop := ∀ K G H L ho st, H L = some ho → q.rel K G ho st → tyV K T (.ref L) H
theorem IV.put {F : Frm} {G H : Hp} {L : Addr} {ho ho' : HO} {own : Frm → Addr → Prop} (oq : OwnQ own) (i : IV F G H) (h : H L = some ho) (g : G L = none) (o : own F L) (nt : ∀ xs, ho' ≠ .tup xs) : IV F G (upd H L ho') := by
  obtain ⟨o1, o2, o3⟩ := oq F L o
  refine ⟨fun b u e => ?_, i.g0, i.new, fun b u hb hu => ?_, fun b hb => ?_, fun b u e => ?_, i.xg, fun b u e => ?_, i.yg, i.tp.put nt⟩
  · rw [upd_ne (fun z => by rw [z, g] at e; cases e)]; exact i.gh b u e
  · rw [upd_ne (fun z => by subst z; rcases o1 with o1 | o1; rw [o1] at hu; cases hu; exact hb o1)]; exact i.fr b u hb hu
  · by_cases z : b = L
    · subst z; rw [upd_same]; intro z; cases z
    · rw [upd_ne z]; exact i.al b hb
  · rw [upd_ne (fun z => by rw [z, o2] at e; cases e)]; exact i.xs b u e
  · rw [upd_ne (fun z => by rw [z, o3] at e; cases e)]; exact i.ys b u e
def NT (q : ORep γ) : Prop := ∀ K G ho a, q.rel K G ho a → ∀ xs, ho ≠ .tup xs
theorem nt_L {r : Rep α} : NT (oL r) := fun K G ho a ⟨vs, h, _⟩ xs e => by rw [h] at e; cases e
theorem nt_L2 {r : Rep α} {r' : Rep β} : NT (oL2 r r') := fun K G ho a ⟨_, _, h, _⟩ xs e => by rw [h] at e; cases e
theorem nt_L3 {r : Rep α} {r' : Rep β} {r'' : Rep γ} : NT (oL3 r r' r'') := fun K G ho a ⟨_, _, _, h, _⟩ xs e => by rw [h] at e; cases e
def mBM (l : Ln ε γ) (g : γ → α → Option (β × γ)) (m : ε → Rs ε α) : ε → Rs ε β := fun e => match l.get e with
  | none => .bad
  | some _ => (m e).bind fun a e1 => match l.get e1 with
    | none => .bad
    | some st => match g st a with
      | none => .bad
      | some (b, st') => .ok b (l.put (some st') (l.put none e1))
variable {M : Mx} {R : ERep ε}
theorem x_bm {n : Nat} {own : Frm → Addr → Prop} {l : Ln ε γ} {q : ORep γ} {Tn : String} {T : V → List V → Hp → VK → Prop} {t : TA} {ra : GR (List V) α} {r : Rep β} {g : γ → α → Option (β × γ)} {m : ε → Rs ε α}
    (vm : VM M.K T q ra r g) (ty : Ty Tn q) (nt : NT q) (oq : OwnQ own) (at' : OwAt R n own q l) (h : EX M R t (fz ra) m) : EX M R (tBM M.K Tn T (tVar n) t) (fz r) (mBM l g m) := fun F G H σ e i hR Q p => by
  unfold mBM at p
  cases h0 : l.get e with
  | none => rw [h0] at p; exact p.elim
  | some st0 =>
    rw [h0] at p
    obtain ⟨L0, ho0, h1, h1b, _, _, h1c, _⟩ := at'.rd hR h0
    refine ⟨_, h1, ty _ _ _ _ _ _ h1b h1c, h F G H σ e i hR _ (p.bind fz_h fun vs a e1 G1 H1 i1 s1 R1 r1 p1 => ?_)⟩
    cases h2 : l.get e1 with
    | none => rw [h2] at p1; exact p1.elim
    | some st =>
      rw [h2] at p1
      obtain ⟨L, hob, h3, h4, h5, h6, h7, h8⟩ := at'.rd R1 h2
      rw [h1] at h3
      cases h3
      dsimp only at p1
      cases hg : g st a with
      | none => rw [hg] at p1; exact p1.elim
      | some bs =>
        obtain ⟨b, st'⟩ := bs
        rw [hg] at p1
        exact vm G1 H1 L0 hob st vs a b st' Q i1.gh h4 h5 h7 r1.1 hg fun v ho' hq hr => p1 v G1 _ _ (i1.put oq h4 h5 h6 (nt _ _ _ _ hq)) .refl ⟨hr, rfl⟩ (at'.bk (by rw [hide_upd]; exact h8) h1 upd_same h5 h6 hq)
def mBM0 (l : Ln ε γ) (g : γ → Unit → Option (β × γ)) : ε → Rs ε β := mBM l g (mC ())
theorem x_bm0 {n : Nat} {own : Frm → Addr → Prop} {l : Ln ε γ} {q : ORep γ} {Tn : String} {T : V → List V → Hp → VK → Prop} {r : Rep β} {g : γ → Unit → Option (β × γ)}
    (vm : VM M.K T q gNilA r g) (ty : Ty Tn q) (nt : NT q) (oq : OwnQ own) (at' : OwAt R n own q l) : EX M R (tBM0 M.K Tn T (tVar n)) (fz r) (mBM0 l g) := fun F G H σ e i hR Q p =>
  x_bm vm ty nt oq at' x_gnil F G H σ e i hR Q p
theorem ty_L {r : Rep α} : Ty "list" (oL r) := fun K G H L ho st h ⟨vs, h1, _⟩ => by subst h1; exact .inl ⟨rfl, _, sql_h h⟩
/-- xs.append(y), insert, pop, extend, reverse -/
def gApp (xs : List α) (y : α) : Option (Unit × List α) := if xs.length < 1000000 then some ((), xs ++ [y]) else none
theorem v_app {r : Rep α} : VM K rAppend (oL r) (gOne r) rN gApp := fun G H L ho st vs a b st' Q s h1 h2 ⟨ws, h3, h4⟩ ⟨v, h5, h6⟩ hg k => by
  subst h3 h5
  obtain ⟨hz, e⟩ := of_ite hg
  cases e
  exact ⟨L, ws, v, rfl, rfl, h1, by rw [h4.length, sizeLine_eq]; omega, k _ _ ⟨_, rfl, h4.app (.cons h6 .nil)⟩ rfl⟩
def gIns (xs : List α) (p : Int × α) : Option (Unit × List α) := if xs.length < 1000000 ∧ 0 ≤ p.1 ∧ p.1 < 2 ^ 62 then some ((), xs.take p.1.toNat ++ [p.2] ++ xs.drop p.1.toNat) else none
def rIns : V → List V → Hp → VK → Prop := fun x vs H Q => ∃ (l : Addr) (xs : List V) (i : Int) (y : V), x = .ref l ∧ vs = [.int i, y] ∧ H l = some (.lst xs) ∧ xs.length < sizeLine ∧ 0 ≤ i ∧ i < 2 ^ 63 ∧ Q .non (upd H l (.lst (xs.take i.toNat ++ [y] ++ xs.drop i.toNat)))
theorem v_ins {r : Rep α} : VM K rIns (oL r) (gConsA rI (gOne r)) rN gIns := fun G H L ho st vs a b st' Q s h1 h2 ⟨ws, h3, h4⟩ ⟨v, us, h5, h6, v', h7, h8⟩ hg k => by
  subst h3 h5 h7
  obtain ⟨hz, e⟩ := of_ite hg
  cases e
  rw [show v = .int a.1 from h6]
  exact ⟨L, ws, a.1, v', rfl, rfl, h1, by rw [h4.length, sizeLine_eq]; omega, hz.2.1, by omega, k _ _ ⟨_, rfl, (h4.take.app (.cons h8 .nil)).app h4.drop⟩ rfl⟩
def gPopAt (xs : List α) (i : Int) : Option (α × List α) := if 0 ≤ i ∧ i < 2 ^ 62 then (xs[i.toNat]?).map fun x => (x, xs.eraseIdx i.toNat) else none
theorem v_popAt {r : Rep α} : VM K rPopAt (oL r) (gOne rI) r gPopAt := fun G H L ho st vs a b st' Q s h1 h2 ⟨ws, h3, h4⟩ ⟨v, h5, h6⟩ hg k => by
  subst h3 h5
  rw [show v = .int a from h6]
  unfold gPopAt at hg
  split at hg
  · next hz =>
    cases e : st[a.toNat]? with
    | none => rw [e] at hg; cases hg
    | some x =>
      rw [e] at hg
      cases hg
      obtain ⟨y, hy, hr⟩ := h4.get e
      have hl : a.toNat < ws.length := (List.getElem?_eq_some_iff.mp hy).1
      refine ⟨L, ws, a, a.toNat, y, rfl, rfl, h1, by omega, by omega, ?_, hy, k _ _ ⟨_, rfl, h4.eraseIdx⟩ hr⟩
      unfold seqIndex?
      simp only [show ¬ (a < 0) by omega, if_false]
      rw [if_pos (by simp; omega)]
  · cases hg
def gPop (xs : List α) (_ : Unit) : Option (α × List α) := (xs[xs.length - 1]?).map fun x => (x, xs.dropLast)
theorem v_pop {r : Rep α} : VM K rPop (oL r) gNilA r gPop := fun G H L ho st vs a b st' Q s h1 h2 ⟨ws, h3, h4⟩ h5 hg k => by
  subst h3
  rw [show vs = [] from h5]
  unfold gPop at hg
  cases e : st[st.length - 1]? with
  | none => rw [e] at hg; cases hg
  | some x =>
    rw [e] at hg
    cases hg
    obtain ⟨y, hy, hr⟩ := h4.get e
    exact ⟨L, ws, y, rfl, rfl, h1, by rw [h4.length]; exact hy, k _ _ ⟨_, rfl, h4.dropLast⟩ hr⟩
def gExt (xs ys : List α) : Option (Unit × List α) := if xs.length + ys.length ≤ 1000000 then some ((), xs ++ ys) else none
theorem v_ext {r : Rep α} : VM K rExtend (oL r) (gOne (rL r)) rN gExt := fun G H L ho st vs a b st' Q s h1 h2 ⟨ws, h3, h4⟩ ⟨v, h5, L', ho', h6, h7, us, h8, h9⟩ hg k => by
  subst h3 h5 h6 h8
  obtain ⟨hz, e⟩ := of_ite hg
  cases e
  exact ⟨L, L', ws, us, rfl, rfl, h1, s _ _ h7, by rw [h4.length, h9.length, sizeLine_eq]; omega, k _ _ ⟨_, rfl, h4.app h9⟩ rfl⟩
def gRevM (xs : List α) (_ : Unit) : Option (Unit × List α) := some ((), xs.reverse)
theorem v_revM {r : Rep α} : VM K rReverse (oL r) gNilA rN gRevM := fun G H L ho st vs a b st' Q s h1 h2 ⟨ws, h3, h4⟩ h5 hg k => by
  subst h3
  cases hg
  rw [show vs = [] from h5]
  exact ⟨L, ws, rfl, rfl, h1, k _ _ ⟨_, rfl, h4.rev⟩ rfl⟩
/-! ## stores to an item -/
def VS (K : PySem.W.Frag) (T : TSet) (q : ORep γ) (ri : Rep α) (r : Rep β) (g : γ → α → β → Option γ) : Prop :=
  ∀ G H L ho st i x v y st' Q, Sub G H → H L = some ho → G L = none → q.rel K G ho st → ri.rel K G i x → r.rel K G v y → g st x y = some st' → (∀ ho', q.rel K G ho' st' → Q (upd H L ho')) → T (.ref L) i v H Q
def mSetI (l : Ln ε γ) (g : γ → α → β → Option γ) (mi : ε → Rs ε α) (m : ε → Rs ε β) : ε → So ε ρ := fun e => (m e).so fun y e1 => match l.get e1 with
  | none => .bad
  | some _ => (mi e1).so fun x e2 => match l.get e2 with
    | none => .bad
    | some st => match g st x y with
      | none => .bad
      | some st' => .nx (l.put (some st') (l.put none e2))
theorem s_setI {n : Nat} {own : Frm → Addr → Prop} {l : Ln ε γ} {q : ORep γ} {T : TSet} {te ti : TE} {ri : Rep α} {r : Rep β} {g : γ → α → β → Option γ} {m : ε → Rs ε β} {mi : ε → Rs ε α} {rr : RS V ρ}
    (vs : VS M.K T q ri r g) (nt : NT q) (oq : OwnQ own) (at' : OwAt R n own q l) (h : EX M R te (fz r) m) (hi : EX M R ti (fz ri) mi) : SX M R rr (tAsg te (gSub (tVar n) ti T)) (mSetI l g mi m) := fun F G H σ e i hR D p =>
  h F G H σ e i hR _ (p.so fun v y e1 G1 H1 H1' i1 s1 hr R1 p1 => by
    rw [hr.2] at R1
    cases h0 : l.get e1 with
    | none => rw [h0] at p1; exact p1.elim
    | some st0 =>
      rw [h0] at p1
      obtain ⟨L0, ho0, h1, _⟩ := at'.rd R1 h0
      refine ⟨_, h1, hi F G1 H1 σ e1 i1 R1 _ (p1.so fun iv x e2 G2 H2 H2' i2 s2 hr2 R2 p2 => ?_)⟩
      rw [hr2.2] at R2
      cases h2 : l.get e2 with
      | none => rw [h2] at p2; exact p2.elim
      | some st =>
        rw [h2] at p2
        obtain ⟨L, hob, h3, h4, h5, h6, h7, h8⟩ := at'.rd R2 h2
        rw [h1] at h3
        cases h3
        dsimp only at p2
        cases hg : g st x y with
        | none => rw [hg] at p2; exact p2.elim
        | some st' =>
          rw [hg] at p2
          exact vs G2 H2 L0 hob st iv x v y st' _ i2.gh h4 h5 h7 hr2.1 (r.mono s2 hr.1) hg fun ho' hq => p2 σ G2 _ (i2.put oq h4 h5 h6 (nt _ _ _ _ hq)) .refl (at'.bk (by rw [hide_upd]; exact h8) h1 upd_same h5 h6 hq))
def gSetL (xs : List α) (i : Int) (y : α) : Option (List α) := (ixN xs.length i).map fun j => xs.set j y
theorem v_setIL {r : Rep α} : VS K rSetL (oL r) rI r gSetL := fun G H L ho st i x v y st' Q s h1 h2 ⟨ws, h3, h4⟩ h5 h6 hg k => by
  subst h3
  rw [show i = .int x from h5]
  unfold gSetL at hg
  cases e : ixN st.length x with
  | none => rw [e] at hg; cases hg
  | some j =>
    rw [e] at hg
    cases hg
    exact ⟨L, ws, x, j, rfl, rfl, h1, by rw [h4.length]; exact e, k _ ⟨_, rfl, h4.set h6⟩⟩
def gSet31 (p : α × β × γ) (i : Int) (y : β) : Option (α × β × γ) := if i = 1 then some (p.1, y, p.2.2) else none
def gSet32 (p : α × β × γ) (i : Int) (y : γ) : Option (α × β × γ) := if i = 2 then some (p.1, p.2.1, y) else none
theorem v_set31 {r : Rep α} {r' : Rep β} {r'' : Rep γ} : VS K rSetL (oL3 r r' r'') rI r' gSet31 := fun G H L ho st i x v y st' Q s h1 h2 ⟨a, b, c, h3, h4, h5, h6⟩ hi hv hg k => by
  subst h3
  obtain ⟨rfl, rfl⟩ := of_ite hg
  rw [show i = .int 1 from hi]
  exact ⟨L, _, 1, 1, rfl, rfl, h1, rfl, k _ ⟨a, v, c, rfl, h4, hv, h6⟩⟩
theorem v_set32 {r : Rep α} {r' : Rep β} {r'' : Rep γ} : VS K rSetL (oL3 r r' r'') rI r'' gSet32 := fun G H L ho st i x v y st' Q s h1 h2 ⟨a, b, c, h3, h4, h5, h6⟩ hi hv hg k => by
  subst h3
  obtain ⟨rfl, rfl⟩ := of_ite hg
  rw [show i = .int 2 from hi]
  exact ⟨L, _, 2, 2, rfl, rfl, h1, rfl, k _ ⟨a, b, v, rfl, h4, h5, hv⟩⟩
end
section
variable {K : PySem.W.Frag} {α β γ ε ρ κ : Type} {w : World} {P : Program}
/-! ## dicts -/
section
variable [DecidableEq κ]
def dget (kbs : List (κ × β)) (k : κ) : Option β := (kbs.find? fun kv => decide (kv.1 = k)).map (·.2)
def dput (kbs : List (κ × β)) (k : κ) (b : β) : List (κ × β) := if (kbs.any fun kv => decide (kv.1 = k)) = true then kbs.map (fun kv => if kv.1 = k then (kv.1, b) else kv) else kbs ++ [(k, b)]
def ddel (kbs : List (κ × β)) (k : κ) : List (κ × β) := kbs.filter fun kv => decide (kv.1 ≠ k)
end
/-- how keys are written -/
structure KeyR (κ κ' : Type) where
  f : κ → κ'
  inj : ∀ a b, f a = f b → a = b
def kTup : KeyR (List Int) (List Key) := ⟨fun ns => ns.map Sum.inl, fun a b h => by
  have : ∀ {a b : List Int}, a.map (Sum.inl : Int → Key) = b.map Sum.inl → a = b := by
    intro a
    induction a with
    | nil => intro b h; cases b with
      | nil => rfl
      | cons _ _ => cases h
    | cons x xs ih => intro b h; cases b with
      | nil => cases h
      | cons y ys =>
        simp only [List.map_cons, List.cons.injEq, Sum.inl.injEq] at h
        rw [h.1, ih h.2]
  exact this h⟩
def kInt : KeyR Int Key := ⟨Sum.inl, fun a b h => Sum.inl.inj h⟩
def kStr : KeyR Str Key := ⟨Sum.inr, fun a b h => Sum.inr.inj h⟩
def DR {κ' : Type} (kr : KeyR κ κ') (r : Rep β) (K : PySem.W.Frag) (G : Hp) : List (κ' × V) → List (κ × β) → Prop := A2 fun p q => p.1 = kr.f q.1 ∧ r.rel K G p.2 q.2
section
variable {κ' : Type} [DecidableEq κ] [DecidableEq κ'] {kr : KeyR κ κ'} {r : Rep β} {G : Hp} {kvs : List (κ' × V)} {kbs : List (κ × β)}
theorem key_iff {k k' : κ} : (kr.f k' = kr.f k) ↔ k' = k := ⟨kr.inj _ _, fun h => by rw [h]⟩
theorem DR.get (h : DR kr r K G kvs kbs) (k : κ) : match dget kbs k with
    | none => valV kvs (kr.f k) = none
    | some b => ∃ v, valV kvs (kr.f k) = some v ∧ r.rel K G v b := by
  unfold dget valV
  induction h with
  | nil => rfl
  | @cons p q ps qs hh _ ih =>
    rw [List.find?_cons, List.find?_cons]
    by_cases e : q.1 = k
    · have e1 : decide (p.1 = kr.f k) = true := decide_eq_true (by rw [hh.1, e])
      have e2 : decide (q.1 = k) = true := decide_eq_true e
      simp only [e1, e2, Option.map_some]
      exact ⟨_, rfl, hh.2⟩
    · have e1 : decide (p.1 = kr.f k) = false := decide_eq_false (by rw [hh.1, key_iff]; exact e)
      have e2 : decide (q.1 = k) = false := decide_eq_false e
      simp only [e1, e2]
      exact ih
theorem DR.any (h : DR kr r K G kvs kbs) (k : κ) : (kvs.any fun kv => decide (kv.1 = kr.f k)) = kbs.any fun kv => decide (kv.1 = k) := by
  induction h with
  | nil => rfl
  | @cons p q ps qs hh _ ih =>
    rw [List.any_cons, List.any_cons, ih, hh.1]
    congr 1
    exact decide_eq_decide.mpr key_iff
theorem DR.put (h : DR kr r K G kvs kbs) {k : κ} {v : V} {b : β} (hv : r.rel K G v b) : DR kr r K G (putK kvs (kr.f k) v) (dput kbs k b) := by
  unfold putK dput
  rw [h.any k]
  split
  · have : ∀ {kvs : List (κ' × V)} {kbs : List (κ × β)}, DR kr r K G kvs kbs → DR kr r K G (kvs.map fun kv => if kv.1 = kr.f k then (kv.1, v) else kv) (kbs.map fun kv => if kv.1 = k then (kv.1, b) else kv) := fun h => by
      induction h with
      | nil => exact .nil
      | @cons p q ps qs hh _ ih =>
        refine .cons ?_ ih
        dsimp only
        by_cases e : q.1 = k
        · rw [if_pos e, if_pos (by rw [hh.1, e])]
          exact ⟨hh.1, hv⟩
        · rw [if_neg e, if_neg (by rw [hh.1, key_iff]; exact e)]
          exact hh
    exact this h
  · exact A2.app h (.cons ⟨rfl, hv⟩ .nil)
theorem DR.del (h : DR kr r K G kvs kbs) {k : κ} : DR kr r K G (dropK kvs (kr.f k)) (ddel kbs k) := by
  unfold dropK ddel
  induction h with
  | nil => exact .nil
  | @cons p q ps qs hh _ ih =>
    rw [List.filter_cons, List.filter_cons]
    by_cases e : q.1 = k
    · rw [if_neg (by simp [hh.1, e]), if_neg (by simp [e])]
      exact ih
    · rw [if_pos (by simp [hh.1, key_iff, e]), if_pos (by simp [e])]
      exact .cons hh ih
end
theorem DR.mono {κ' : Type} {kr : KeyR κ κ'} {r : Rep β} {G G' : Hp} {kvs : List (κ' × V)} {kbs : List (κ × β)} (s : Sub G G') (h : DR kr r K G kvs kbs) : DR kr r K G' kvs kbs := A2.mono h fun _ _ h => ⟨h.1, r.mono s h.2⟩
/-- a dict keyed by tuples of numbers; by numbers -/
def oD (r : Rep β) : ORep (List (List Int × β)) := ⟨fun K G ho kbs => ∃ kvs, ho = .dT kvs ∧ DR kTup r K G kvs kbs, fun s ⟨kvs, h1, h2⟩ => ⟨kvs, h1, h2.mono s⟩⟩
def oDI (r : Rep β) : ORep (List (Int × β)) := ⟨fun K G ho kbs => ∃ kvs, ho = .dK kvs ∧ DR kInt r K G kvs kbs, fun s ⟨kvs, h1, h2⟩ => ⟨kvs, h1, h2.mono s⟩⟩
/-- .. while it is walked -/
def oDz (r : Rep β) : ORep (List (List Int × β)) := ⟨fun K G ho kbs => ∃ o kvs, ho = .frz o (.dT kvs) ∧ DR kTup r K G kvs kbs, fun s ⟨o, kvs, h1, h2⟩ => ⟨o, kvs, h1, h2.mono s⟩⟩
def oDIz (r : Rep β) : ORep (List (Int × β)) := ⟨fun K G ho kbs => ∃ o kvs, ho = .frz o (.dK kvs) ∧ DR kInt r K G kvs kbs, fun s ⟨o, kvs, h1, h2⟩ => ⟨o, kvs, h1, h2.mono s⟩⟩
/-- a dict that can be asked -/
structure DAsk (q : ORep (List (κ × β))) (rk : Rep κ) (r : Rep β) [DecidableEq κ] : Prop where
  get : ∀ {K G H L ho kbs k a}, Sub G H → H L = some ho → q.rel K G ho kbs → rk.rel K G k a → ∃ o, DGet H L k o ∧ match dget kbs a with
    | none => o = none
    | some b => ∃ v, o = some v ∧ r.rel K G v b
theorem key_tup {G H : Hp} {k : V} {a : List Int} (s : Sub G H) (h : (rT rI).rel K G k a) : ∃ b, k = .ref b ∧ H b = some (.tup ((kTup.f a).map kV)) := by
  obtain ⟨L, ho, rfl, h2, vs, rfl, h4⟩ := h
  refine ⟨L, rfl, ?_⟩
  rw [s _ _ h2, ints_of h4]
  show _ = some (HO.tup ((a.map Sum.inl).map kV))
  rw [List.map_map]
  rfl
theorem ask_D {r : Rep β} : DAsk (oD r) (rT rI) r := ⟨fun {K G H L ho kbs k a} s h ⟨kvs, h1, h2⟩ hk => by
  subst h1
  obtain ⟨b, rfl, hb⟩ := key_tup s hk
  refine ⟨_, .t h hb, ?_⟩
  have := h2.get a
  revert this
  cases dget kbs a <;> exact id⟩
theorem ask_Dz {r : Rep β} : DAsk (oDz r) (rT rI) r := ⟨fun {K G H L ho kbs k a} s h ⟨o, kvs, h1, h2⟩ hk => by
  subst h1
  obtain ⟨b, rfl, hb⟩ := key_tup s hk
  refine ⟨valV kvs (kTup.f a), .inr ⟨kvs, _, b, .inr ⟨o, h⟩, rfl, hb, rfl⟩, ?_⟩
  have := h2.get a
  revert this
  cases dget kbs a <;> exact id⟩
theorem ask_DI {r : Rep β} : DAsk (oDI r) rI r := ⟨fun {K G H L ho kbs k a} s h ⟨kvs, h1, h2⟩ hk => by
  subst h1
  cases hk
  refine ⟨_, .k (k := Sum.inl a) h, ?_⟩
  have := h2.get a
  revert this
  cases dget kbs a <;> exact id⟩
theorem ask_DIz {r : Rep β} : DAsk (oDIz r) rI r := ⟨fun {K G H L ho kbs k a} s h ⟨o, kvs, h1, h2⟩ hk => by
  subst h1
  cases hk
  refine ⟨valV kvs (kInt.f a), .inl ⟨kvs, Sum.inl a, .inr ⟨o, h⟩, rfl, rfl⟩, ?_⟩
  have := h2.get a
  revert this
  cases dget kbs a <;> exact id⟩
variable [DecidableEq κ] {q : ORep (List (κ × β))} {rk : Rep κ} {r : Rep β} {M : Mx} {R : ERep ε}
def dIn (k : κ) (kbs : List (κ × β)) : Option Bool := some (dget kbs k).isSome
def dNin (k : κ) (kbs : List (κ × β)) : Option Bool := some (!(dget kbs k).isSome)
theorem x_din {ty td : TE} {m : ε → Rs ε κ} {n : ε → Rs ε (List (κ × β))} (ask : DAsk q rk r) (h : EX M R ty (fz rk) m) (k : EX M R td (is (rd q)) n) : EX M R (tDIn ty td) (fz rB) (mOp dIn m n) :=
  x_op (t := ty) (u := td) (T := fun (y x : V) (H2 : Hp) (Q : VK) => ∃ a o, x = .ref a ∧ DGet H2 a y o ∧ Q (.bl o.isSome) H2) (r := rk) (i1' := ir rk) (s := rd q) (g := dIn) (fun G H v w a b c Q s h1 ⟨L, ho, h2, h3, h4⟩ hg k => by
    cases hg; subst h2
    obtain ⟨o, ho1, ho2⟩ := ask.get s h3 h4 h1
    refine ⟨L, o, rfl, ho1, k _ G H (.refl s) ?_⟩
    revert ho2
    cases dget b a with
    | none => rintro rfl; rfl
    | some x => rintro ⟨v, rfl, _⟩; rfl) Cv.id h k
theorem x_dnin {ty td : TE} {m : ε → Rs ε κ} {n : ε → Rs ε (List (κ × β))} (ask : DAsk q rk r) (h : EX M R ty (fz rk) m) (k : EX M R td (is (rd q)) n) : EX M R (tDNotIn ty td) (fz rB) (mOp dNin m n) :=
  x_op (t := ty) (u := td) (T := fun (y x : V) (H2 : Hp) (Q : VK) => ∃ a o, x = .ref a ∧ DGet H2 a y o ∧ Q (.bl (!o.isSome)) H2) (r := rk) (i1' := ir rk) (s := rd q) (g := dNin) (fun G H v w a b c Q s h1 ⟨L, ho, h2, h3, h4⟩ hg k => by
    cases hg; subst h2
    obtain ⟨o, ho1, ho2⟩ := ask.get s h3 h4 h1
    refine ⟨L, o, rfl, ho1, k _ G H (.refl s) ?_⟩
    revert ho2
    cases dget b a with
    | none => rintro rfl; rfl
    | some x => rintro ⟨v, rfl, _⟩; rfl) Cv.id h k
/-- d[k], d a name -/
theorem x_dget {n : Nat} {l : Ln ε (List (κ × β))} {ty : TE} {m : ε → Rs ε κ} (ask : DAsk q rk r) (at' : Late R n q l) (h : EX M R ty (fz rk) m) : EX M R (tDGet (tVar n) ty) (fz r) (mOpL dget l m) :=
  x_opL (u := ty) (T := fun (x y : V) (H2 : Hp) (Q : VK) => ∃ a v, x = .ref a ∧ DGet H2 a y (some v) ∧ Q v H2) (s := ir rk) (g := dget) (fun G H v w a b c Q s ⟨L, ho, h2, h3, h4⟩ h1 hg k => by
    subst h2
    obtain ⟨o, ho1, ho2⟩ := ask.get s h3 h4 h1
    rw [hg] at ho2
    obtain ⟨x, rfl, hr⟩ := ho2
    exact ⟨L, x, rfl, ho1, k _ G H (.refl s) hr⟩) at' h
/-- d.get(k, x) -/
def mDGet2 (l : Ln ε (List (κ × β))) (m : ε → Rs ε κ) (x : ε → Rs ε β) : ε → Rs ε β := fun e => match l.get e with
  | none => .bad
  | some _ => (m e).bind fun a e1 => (x e1).bind fun b e2 => (mVar l e2).bind fun kbs e3 => .ok ((dget kbs a).getD b) e3
def IsDq (q : ORep (List (κ × β))) : Prop := ∀ K G H L ho kbs, H L = some ho → q.rel K G ho kbs → IsD H L
theorem isd_D {r : Rep β} : IsDq (oD r) := fun K G H L ho kbs h ⟨kvs, h1, _⟩ => by subst h1; exact .inr ⟨kvs, .inl h⟩
theorem isd_DI {r : Rep β} : IsDq (oDI r) := fun K G H L ho kbs h ⟨kvs, h1, _⟩ => by subst h1; exact .inl ⟨kvs, .inl h⟩
theorem isd_Dz {r : Rep β} : IsDq (oDz r) := fun K G H L ho kbs h ⟨o, kvs, h1, _⟩ => by subst h1; exact .inr ⟨kvs, .inr ⟨o, h⟩⟩
theorem isd_DIz {r : Rep β} : IsDq (oDIz r) := fun K G H L ho kbs h ⟨o, kvs, h1, _⟩ => by subst h1; exact .inl ⟨kvs, .inr ⟨o, h⟩⟩
theorem x_dget2 {n : Nat} {l : Ln ε (List (κ × β))} {ty tx : TE} {m : ε → Rs ε κ} {x : ε → Rs ε β} (ask : DAsk q rk r) (iq : IsDq q) (at' : Late R n q l) (h : EX M R ty (fz rk) m) (hx : EX M R tx (fz r) x) : EX M R (tDGet2 (tVar n) ty tx) (fz r) (mDGet2 l m x) := fun F G H σ e i hR Q p => by
  unfold mDGet2 at p
  cases h0 : l.get e with
  | none => rw [h0] at p; exact p.elim
  | some a0 =>
    rw [h0] at p
    obtain ⟨L0, ho0, h1, h1b, h1c⟩ := at'.rd i hR h0
    refine ⟨_, h1, L0, rfl, iq _ _ _ _ _ _ h1b h1c, h F G H σ e i hR _ (p.bind fz_h fun kv a e1 G1 H1 i1 s1 R1 r1 p1 => hx F G1 H1 σ e1 i1 R1 _ (p1.bind fz_h fun xv b e2 G2 H2 i2 s2 R2 r2 p2 => ?_))⟩
    unfold mVar at p2
    cases h2 : l.get e2 with
    | none => rw [h2] at p2; exact p2.elim
    | some kbs =>
      rw [h2] at p2
      obtain ⟨L, ho, h3, h4, h5⟩ := at'.rd i2 R2 h2
      rw [h1] at h3
      cases h3
      obtain ⟨o, ho1, ho2⟩ := ask.get i2.gh h4 h5 (rk.mono s2 r1.1)
      refine ⟨o, ho1, p2 _ G2 H2 H2 i2 .refl ⟨?_, rfl⟩ R2⟩
      revert ho2
      cases dget kbs a with
      | none => rintro rfl; exact r2.1
      | some y => rintro ⟨v, rfl, hr⟩; exact hr
/-- d[k] = v -/
def gDPut (kbs : List (κ × β)) (k : κ) (b : β) : Option (List (κ × β)) := if kbs.length < 1000000 then some (dput kbs k b) else none
theorem v_dput {r : Rep β} : VS K rSetD (oD r) (rT rI) r gDPut := fun G H L ho st i x v y st' Q s h1 h2 ⟨kvs, h3, h4⟩ h5 h6 hg k => by
  subst h3
  obtain ⟨hz, rfl⟩ := of_ite hg
  obtain ⟨b, rfl, hb⟩ := key_tup s h5
  exact ⟨L, _, rfl, .inr ⟨kvs, _, b, h1, rfl, hb, by rw [A2.length h4, sizeLine_eq]; omega, rfl⟩, k _ ⟨_, rfl, h4.put h6⟩⟩
theorem v_dputI {r : Rep β} : VS K rSetD (oDI r) rI r gDPut := fun G H L ho st i x v y st' Q s h1 h2 ⟨kvs, h3, h4⟩ h5 h6 hg k => by
  subst h3
  cases h5
  obtain ⟨hz, rfl⟩ := of_ite hg
  exact ⟨L, _, rfl, .inl ⟨kvs, Sum.inl x, h1, rfl, by rw [A2.length h4, sizeLine_eq]; omega, rfl⟩, k _ ⟨_, rfl, h4.put (kr := kInt) h6⟩⟩
theorem x_dnew {r : Rep β} : EX M R tDNewT (fs (oD r)) (mC []) := fun F G H σ e i hR Q p L hL => (Post.finF i hR p) L _ G _ (.own i.gh hL) hL (i.gh.no hL) upd_same ⟨[], rfl, .nil⟩
theorem x_dnewK {r : Rep β} : EX M R tDNewK (fs (oDI r)) (mC []) := fun F G H σ e i hR Q p L hL => (Post.finF i hR p) L _ G _ (.own i.gh hL) hL (i.gh.no hL) upd_same ⟨[], rfl, .nil⟩
/-! ### a dict, walked -/
def keysOf (kbs : List (κ × β)) : List κ := kbs.map (·.1)
def mKeys (l : Ln ε (List (κ × β))) : ε → Rs ε (List κ) := fun e => (mVar l e).bind fun kbs e1 => .ok (keysOf kbs) e1
theorem x_keys {n : Nat} {r : Rep β} {l : Ln ε (List (List Int × β))} (at' : PrAt R n (oDz r) l) : EX M R (iKeys (tVar n)) (walkS (rT rI)) (mKeys l) := fun F G H σ e i hR Q p => by
  unfold mKeys mVar at p
  cases h0 : l.get e with
  | none => rw [h0] at p; exact p.elim
  | some kbs =>
    rw [h0] at p
    obtain ⟨L, ho, h1, h2, o, kvs, rfl, h3⟩ := at'.rd hR h0
    refine ⟨.ref L, h1, L, o, rfl, .inr ⟨kvs, i.ys _ _ h2, p _ G H H i .refl ⟨fun k G2 H2 i2 s2 => ?_, rfl⟩ hR⟩⟩
    have hh := i2.ys _ _ h2
    refine ⟨fun hk => ⟨hh, ?_⟩, fun x hx => ?_⟩
    · rw [A2.length h3]
      unfold keysOf at hk
      rwa [List.length_map] at hk
    · unfold keysOf at hx
      rw [List.getElem?_map] at hx
      cases z : kbs[k]? with
      | none => rw [z] at hx; cases hx
      | some kb =>
        rw [z] at hx
        cases hx
        obtain ⟨kv, hkv, hk1, _⟩ := A2.get h3 z
        refine ⟨⟨hh, (List.getElem?_eq_some_iff.mp hkv).1⟩, fun v H'' hy => ?_⟩
        obtain ⟨rfl, k', v', q, hq1, rfl, hq2⟩ := hy
        rw [hkv] at hq1
        cases hq1
        have hg := i2.tp _ _ hq2
        refine ⟨G2, .refl i2.gh, q, _, rfl, hg, _, rfl, ?_⟩
        have hk1 : k' = kb.1.map Sum.inl := hk1
        rw [hk1]
        show A2 _ ((kb.1.map Sum.inl).map kV) kb.1
        rw [List.map_map]
        exact .ofMap fun _ _ => rfl
theorem x_keysI {n : Nat} {r : Rep β} {l : Ln ε (List (Int × β))} (at' : PrAt R n (oDIz r) l) : EX M R (iKeys (tVar n)) (walkS rI) (mKeys l) := fun F G H σ e i hR Q p => by
  unfold mKeys mVar at p
  cases h0 : l.get e with
  | none => rw [h0] at p; exact p.elim
  | some kbs =>
    rw [h0] at p
    obtain ⟨L, ho, h1, h2, o, kvs, rfl, h3⟩ := at'.rd hR h0
    refine ⟨.ref L, h1, L, o, rfl, .inl ⟨kvs, i.ys _ _ h2, p _ G H H i .refl ⟨fun k G2 H2 i2 s2 => ?_, rfl⟩ hR⟩⟩
    have hh := i2.ys _ _ h2
    refine ⟨fun hk => ⟨hh, ?_⟩, fun x hx => ?_⟩
    · rw [A2.length h3]
      unfold keysOf at hk
      rwa [List.length_map] at hk
    · unfold keysOf at hx
      rw [List.getElem?_map] at hx
      cases z : kbs[k]? with
      | none => rw [z] at hx; cases hx
      | some kb =>
        rw [z] at hx
        cases hx
        obtain ⟨kv, hkv, hk1, _⟩ := A2.get h3 z
        refine ⟨⟨hh, (List.getElem?_eq_some_iff.mp hkv).1⟩, fun v H'' hy => ?_⟩
        obtain ⟨rfl, k', v', hq1, rfl⟩ := hy
        rw [hkv] at hq1
        cases hq1
        have hk1 : k' = Sum.inl kb.1 := hk1
        exact ⟨G2, .refl i2.gh, by rw [hk1]; rfl⟩
/-- the dict of a name is locked -/
structure Lck (q q' : ORep γ) : Prop where
  nt : NT q
  mu : ∀ K G ho a, q.rel K G ho a → Mut (some ho)
  to : ∀ K G ho a od, q.rel K G ho a → q'.rel K G (.frz od ho) a
  bk : ∀ K G ho a od, q'.rel K G (.frz od ho) a → q.rel K G ho a
theorem lck_D {r : Rep β} : Lck (oD r) (oDz r) := by
  refine ⟨?_, ?_, ?_, ?_⟩
  · rintro K G ho a ⟨kvs, rfl, _⟩ xs e; cases e
  · rintro K G ho a ⟨kvs, rfl, _⟩; trivial
  · rintro K G ho a od ⟨kvs, rfl, h2⟩; exact ⟨od, kvs, rfl, h2⟩
  · rintro K G ho a od ⟨o, kvs, h, h2⟩; cases h; exact ⟨kvs, rfl, h2⟩
theorem lck_DI {r : Rep β} : Lck (oDI r) (oDIz r) := by
  refine ⟨?_, ?_, ?_, ?_⟩
  · rintro K G ho a ⟨kvs, rfl, _⟩ xs e; cases e
  · rintro K G ho a ⟨kvs, rfl, _⟩; trivial
  · rintro K G ho a od ⟨kvs, rfl, h2⟩; exact ⟨od, kvs, rfl, h2⟩
  · rintro K G ho a od ⟨o, kvs, h, h2⟩; cases h; exact ⟨kvs, rfl, h2⟩
def mLock (l : Ln ε γ) (m : ε → Rs ε α) : ε → Rs ε α := fun e => match l.get e with
  | none => .bad
  | some x => match m (l.put (some x) e) with
    | .ok a e1 => .ok a (l.put (some x) (l.put none e1))
    | _ => .bad
theorem x_lock {n : Nat} {R' : ERep ε} {own : Frm → Addr → Prop} {l : Ln ε γ} {q q' : ORep γ} {t : TE} {q2 : ORep α} {m : ε → Rs ε α} (lk : Lck q q') (oq : OwnQ own) (at' : OwAt R n own q l) (sw : Sw R R' n q' l) (h : EX M R' t (fs q2) m) :
    EX M R (tLockE t) (fs q2) (mLock l m) := fun F G H σ e i hR Q p => by
  unfold mLock at p
  cases h0 : l.get e with
  | none => rw [h0] at p; exact p.elim
  | some x =>
    rw [h0] at p
    obtain ⟨L, ho, h1, h2, h3, h4, h5, h6⟩ := at'.rd hR h0
    refine ⟨L, ho, h2, lk.mu _ _ _ _ h5, fun od => ?_⟩
    obtain ⟨o1, o2, o3⟩ := oq F L h4
    have iv : IV (F.lockY L (.frz od ho)) G (upd H L (.frz od ho)) := by
      have i' := i.put (ho' := .frz od ho) oq h2 h3 h4 (by intro _ h; cases h)
      exact ⟨i'.gh, i'.g0, i'.new, i'.fr, i'.al, i'.xs, i'.xg, upd_sub i'.ys upd_same, fun b hb => (upd_some hb).elim (fun z => z ▸ h3) (i'.yg b), i'.tp⟩
    refine h (F.lockY L (.frz od ho)) G _ σ _ iv (sw.to (ho := .frz od ho) (by rw [hide_upd]; exact h6) h1 (lk.to _ _ _ _ od h5)) _ ?_
    revert p
    dsimp only
    cases m (l.put (some x) e) with
    | bad => exact id
    | ex c e1 => exact fun p => p.elim
    | ok a e1 =>
      rintro p v G' H' H1 iv' s' ⟨L', ho', rfl, b1, b2, b3, b4, rfl⟩ R1
      have hL : H' L = some (.frz od ho) := iv'.ys _ _ upd_same
      have gL : G' L = none := iv'.yg _ (by show upd F.Y L _ L ≠ none; rw [upd_same]; intro z; cases z)
      have ne : L' ≠ L := fun z => by
        have := b3.2.2
        rw [z] at this
        exact nomatch (show some (HO.frz od ho) = none from upd_same.symm.trans this)
      have iF : IV F G' (upd H' L ho) := by
        refine ⟨fun b u hb => ?_, iv'.g0, iv'.new, fun b u hb hu => ?_, fun b hb => ?_, fun b u hb => ?_, iv'.xg, fun b u hb => ?_, fun b hb => iv'.yg b ((sub_upd o3).ne hb), iv'.tp.put (lk.nt _ _ _ _ h5)⟩
        · rw [upd_ne (fun z => by rw [z, gL] at hb; cases hb)]; exact iv'.gh b u hb
        · rw [upd_ne (fun z => by subst z; rcases o1 with o1 | o1; rw [o1] at hu; cases hu; exact hb o1)]; exact iv'.fr b u hb hu
        · by_cases z : b = L
          · subst z; rw [upd_same]; intro z; cases z
          · rw [upd_ne z]; exact iv'.al b hb
        · rw [upd_ne (fun z => by rw [z, o2] at hb; cases hb)]; exact iv'.xs b u hb
        · rw [upd_ne (fun z => by rw [z, o3] at hb; cases hb)]; exact iv'.ys b u (sub_upd o3 _ _ hb)
      refine ⟨hL, p (.ref L') G' (upd H' L ho) (hide (upd H' L ho) L') iF s' ⟨L', ho', rfl, by rw [upd_ne ne]; exact b1, b2, ⟨b3.1, b3.2.1, ?_⟩, b4, rfl⟩ ?_⟩
      · exact (upd_ne ne).symm.trans b3.2.2
      · refine at'.bk (L := L) (ho := ho) ?_ h1 (by rw [hide_ne ne.symm, upd_same]) gL h4 (q.mono s' h5)
        rw [hide_comm, hide_upd, hide_comm]
        exact sw.bk R1
/-- a list of one's own, walked: it stays meanwhile -/
theorem x_iLP {n : Nat} {l : Ln ε (List α)} {r : Rep α} (at' : PrAt R n (oL r) l) : EX M R (iList M.K (tVar n)) (walkS r) (mVar l) := fun F G H σ e i hR Q p => by
  obtain ⟨a, ha, p2⟩ := of_some p
  obtain ⟨L, ho, h1, h2, vs, rfl, h5⟩ := at'.rd hR ha
  have q : ∀ {G2 H2 : Hp}, IV F G2 H2 → SqL M.K H2 L vs := fun i2 => .inl (.inl (i2.ys _ _ h2))
  refine ⟨.ref L, h1, L, rfl, ⟨vs, q i⟩, p2 _ G H H i .refl ⟨fun k G2 H2 i2 s2 => ?_, rfl⟩ hR⟩
  refine ⟨fun hk => ⟨vs, q i2, by rw [h5.length]; exact hk⟩, fun x hx => ?_⟩
  obtain ⟨v, hv, hr⟩ := h5.get hx
  refine ⟨⟨vs, v, q i2, hv⟩, fun v' H'' hy => ?_⟩
  obtain ⟨rfl, hy⟩ := hy
  have := hy vs (q i2)
  rw [hv] at this
  cases this
  exact ⟨G2, .refl i2.gh, r.mono s2 hr⟩
theorem x_prot {n : Nat} {R' : ERep ε} {own : Frm → Addr → Prop} {l : Ln ε γ} {q : ORep γ} {t : TE} {q2 : ORep α} {m : ε → Rs ε α} (oq : OwnQ own) (at' : OwAt R n own q l) (sw : Sw R R' n q l) (h : EX M R' t (fs q2) m) :
    EX M R t (fs q2) (mLock l m) := fun F G H σ e i hR Q p => by
  unfold mLock at p
  cases h0 : l.get e with
  | none => rw [h0] at p; exact p.elim
  | some x =>
    rw [h0] at p
    obtain ⟨L, ho, h1, h2, h3, h4, h5, h6⟩ := at'.rd hR h0
    obtain ⟨o1, o2, o3⟩ := oq F L h4
    have iv : IV (F.lockY L ho) G H := ⟨i.gh, i.g0, i.new, i.fr, i.al, i.xs, i.xg, upd_sub i.ys h2, fun b hb => (upd_some hb).elim (fun z => z ▸ h3) (i.yg b), i.tp⟩
    refine h (F.lockY L ho) G _ σ _ iv (sw.to (ho := ho) h6 h1 h5) _ ?_
    revert p
    dsimp only
    cases m (l.put (some x) e) with
    | bad => exact id
    | ex c e1 => exact fun p => p.elim
    | ok a e1 =>
      rintro p v G' H' H1 iv' s' ⟨L', ho', rfl, b1, b2, b3, b4, rfl⟩ R1
      have hL : H' L = some ho := iv'.ys _ _ upd_same
      have gL : G' L = none := iv'.yg _ (by show upd F.Y L _ L ≠ none; rw [upd_same]; intro z; cases z)
      have ne : L' ≠ L := fun z => by
        have := b3.2.2
        rw [z] at this
        exact nomatch (show some ho = none from upd_same.symm.trans this)
      have iF : IV F G' H' := ⟨iv'.gh, iv'.g0, iv'.new, iv'.fr, iv'.al, iv'.xs, iv'.xg, (sub_upd o3).trans iv'.ys, fun b hb => iv'.yg b ((sub_upd o3).ne hb), iv'.tp⟩
      refine p (.ref L') G' H' (hide H' L') iF s' ⟨L', ho', rfl, b1, b2, ⟨b3.1, b3.2.1, ?_⟩, b4, rfl⟩ ?_
      · exact (upd_ne ne).symm.trans b3.2.2
      · refine at'.bk (L := L) (ho := ho) ?_ h1 (by rw [hide_ne ne.symm]; exact hL) gL h4 (q.mono s' h5)
        rw [hide_comm]
        have := sw.bk R1
        rw [hide_comm] at this
        exact this
/-! ## small things -/
theorem x_powc {a b n : Int} (h : gPow a b = some n) : EX M R (tOp rPow (tC (.int a)) (tC (.int b))) (fz rI) (mC n) := fun F G H σ e i hR Q p =>
  v_pow (K := M.K) G H _ _ a b n Q i.gh rfl rfl h (Post.fin i hR p)

theorem nt_D {r : Rep β} : NT (oD r) := fun K G ho a ⟨_, h, _⟩ xs e => by rw [h] at e; cases e
theorem nt_DI {r : Rep β} : NT (oDI r) := fun K G ho a ⟨_, h, _⟩ xs e => by rw [h] at e; cases e
theorem mt_ins {X : Cx} : MtR X "list.insert" rIns := mt_insert
theorem units1 {k : Nat} {A : PySem.Around} (r : Room k A) : A.units + 1 < PySem.cLine := by have := r.un; omega
theorem ps_lockA {X : Cx} {st : Stmt} {te : TE} {i : Nat} (h : PS X st (tAsg te (gName i))) : PS X st (tAsg (tLockE te) (gName i)) := ps_lock h
def cx0 : Str → Addr := fun _ => 0
/-- never None -/
def NN (r : Rep α) : Prop := ∀ K G v a, r.rel K G v a → v ≠ .non
theorem nn_z {q : ORep α} : NN (rz q) := fun K G v a ⟨L, ho, h, _⟩ => by rw [h]; intro z; cases z
theorem nn_I : NN rI := fun K G v a h => by rw [show v = .int a from h]; intro z; cases z
theorem nn_B : NN rB := fun K G v a h => by rw [show v = .bl a from h]; intro z; cases z
theorem nn_S : NN rS := fun K G v a h => by rw [show v = .str a from h]; intro z; cases z
def mSome (m : ε → Rs ε α) : ε → Rs ε (Option α) := fun e => (m e).bind fun a e1 => .ok (some a) e1
def mNone (m : ε → Rs ε Unit) : ε → Rs ε (Option α) := fun e => (m e).bind fun _ e1 => .ok none e1
theorem x_some {t : TE} {r : Rep α} {m : ε → Rs ε α} (nn : NN r) (h : EX M R t (fz r) m) : EX M R t (fz (rO r)) (mSome m) := fun F G H σ e i hR Q p =>
  h F G H σ e i hR _ (p.bind fz_h fun v a e1 G1 H1 i1 s1 R1 r1 p1 => p1 v G1 H1 H1 i1 .refl ⟨⟨nn _ _ _ _ r1.1, r1.1⟩, rfl⟩ R1)
theorem x_none {t : TE} {r : Rep α} {m : ε → Rs ε Unit} (h : EX M R t (fz rN) m) : EX M R t (fz (rO r)) (mNone m) := fun F G H σ e i hR Q p =>
  h F G H σ e i hR _ (p.bind fz_h fun v a e1 G1 H1 i1 s1 R1 r1 p1 => p1 v G1 H1 H1 i1 .refl ⟨r1.1, rfl⟩ R1)
end
/-! # Mirrors, reasoned about in plain Lean -/
section
variable {ε ε' α β γ ρ ι κ : Type}
/-- it comes to an end well, and Q holds of what it gives -/
def RsP0 (x : Rs ε α) (Q : α → ε → Prop) : Prop := match x with
  | .ok a e => Q a e | .ex _ _ => False | .bad => False
def SoP0 (x : So ε ρ) (N C B : ε → Prop) (T : ρ → ε → Prop) : Prop := match x with
  | .nx e => N e | .ct e => C e | .bk e => B e | .rt a e => T a e | .ex _ _ => False | .bad => False
def OpP0 (x : Option α) (Q : α → Prop) : Prop := match x with
  | some a => Q a | none => False
variable {Q : α → ε → Prop} {N C B : ε → Prop} {T : ρ → ε → Prop} {a : α} {e : ε}
theorem RsP0.imp {x : Rs ε α} {P Q : α → ε → Prop} (h : RsP0 x P) (k : ∀ a e, P a e → Q a e) : RsP0 x Q := by
  cases x with
  | ok a e => exact k a e h
  | ex c e => exact h
  | bad => exact h
theorem RsP0.ex {x : Rs ε α} (h : RsP0 x Q) : ∃ a e, x = .ok a e ∧ Q a e := by
  cases x with
  | ok a e => exact ⟨a, e, rfl, h⟩
  | ex c e => exact h.elim
  | bad => exact h.elim
theorem RsP0.of_eq {x : Rs ε α} (h : x = .ok a e) (q : Q a e) : RsP0 x Q := by rw [h]; exact q
theorem SoP0.imp {x : So ε ρ} {N N' C C' B B' : ε → Prop} {T T' : ρ → ε → Prop} (h : SoP0 x N C B T) (n : ∀ e, N e → N' e) (c : ∀ e, C e → C' e) (b : ∀ e, B e → B' e) (t : ∀ a e, T a e → T' a e) : SoP0 x N' C' B' T' := by
  cases x with
  | nx e => exact n e h
  | ct e => exact c e h
  | bk e => exact b e h
  | rt a e => exact t a e h
  | ex _ _ => exact h
  | bad => exact h
theorem rp_ok_0 : RsP0 (.ok a e) Q = Q a e := propext ⟨fun h => h, fun h => h⟩
theorem rp_bad_0 : RsP0 (.bad : Rs ε α) Q = False := propext ⟨fun h => h, fun h => h⟩
theorem rp_of_0 {o : Option α} : RsP0 (.of o e) Q = OpP0 o fun a => Q a e := by cases o <;> rfl
theorem op_some_0 {Q : α → Prop} : OpP0 (some a) Q = Q a := propext ⟨fun h => h, fun h => h⟩
theorem op_ite_0 {c : Prop} [Decidable c] {o : Option α} {Q : α → Prop} : OpP0 (if c then o else none) Q = (c ∧ OpP0 o Q) := by
  by_cases h : c
  · simp [h, OpP0]
  · simp [h, OpP0]
theorem rp_bind_0 {x : Rs ε β} {f : β → ε → Rs ε α} : RsP0 (x.bind f) Q = RsP0 x fun b e1 => RsP0 (f b e1) Q := by cases x <;> rfl
theorem rp_bindN_0 {x : Rs ε β} {f : β → ε → Rs ε α} : RsP0 (x.bindN f) Q = RsP0 x fun b e1 => RsP0 (f b e1) Q := by cases x <;> rfl
theorem rp_run_0 {x : Rs Unit α} : RsP0 (x.run e) Q = RsP0 x fun b _ => Q b e := by cases x <;> rfl
theorem rp_ite_0 {c : Prop} [Decidable c] {x y : Rs ε α} : RsP0 (if c then x else y) Q = if c then RsP0 x Q else RsP0 y Q := by split <;> rfl
theorem sp_nx_0 : SoP0 (.nx e : So ε ρ) N C B T = N e := propext ⟨fun h => h, fun h => h⟩
theorem sp_ct_0 : SoP0 (.ct e : So ε ρ) N C B T = C e := propext ⟨fun h => h, fun h => h⟩
theorem sp_bk_0 : SoP0 (.bk e : So ε ρ) N C B T = B e := propext ⟨fun h => h, fun h => h⟩
theorem sp_rt_0 {r : ρ} : SoP0 (.rt r e) N C B T = T r e := propext ⟨fun h => h, fun h => h⟩
theorem sp_so_0 {x : Rs ε α} {f : α → ε → So ε ρ} : SoP0 (x.so f) N C B T = RsP0 x fun a e1 => SoP0 (f a e1) N C B T := by cases x <;> rfl
theorem sp_ite_0 {c : Prop} [Decidable c] {x y : So ε ρ} : SoP0 (if c then x else y) N C B T = if c then SoP0 x N C B T else SoP0 y N C B T := by split <;> rfl
theorem sp_seq_0 {m n : ε → So ε ρ} : SoP0 (mSeq m n e) N C B T = SoP0 (m e) (fun e1 => SoP0 (n e1) N C B T) C B T := by unfold mSeq; cases m e <;> rfl
theorem sp_kill_0 {k : ε → ε} {m : ε → So ε ρ} : SoP0 (mKill k m e) N C B T = SoP0 (m e) (fun e1 => N (k e1)) (fun e1 => C (k e1)) (fun e1 => B (k e1)) T := by unfold mKill; cases m e <;> rfl
theorem sp_for_0 {m : ε → Rs ε (List α)} {pt : α → ε → ε} {b : ε → So ε ρ} : SoP0 (mFor m pt b e) N C B T = RsP0 (m e) fun xs e1 => SoP0 (mLoop (fun x e => b (pt x e)) xs e1) N C B T := by unfold mFor; rw [sp_so_0]
theorem sp_ret_0 {m : ε → Rs ε ρ} : SoP0 (mRet m e) N C B T = RsP0 (m e) T := by unfold mRet; rw [sp_so_0]; rfl
theorem sp_drop_0 {m : ε → Rs ε α} : SoP0 (mDrop m e : So ε ρ) N C B T = RsP0 (m e) fun _ e1 => N e1 := by unfold mDrop; rw [sp_so_0]; rfl
theorem sp_set_0 {l : Ln ε α} {m : ε → Rs ε α} : SoP0 (mSet l m e : So ε ρ) N C B T = RsP0 (m e) fun a e1 => N (l.put (some a) e1) := by unfold mSet; rw [sp_so_0]; rfl
theorem sp_asgN_0 {m : ε → Rs ε α} {pt : α → ε → ε} : SoP0 (mAsgN m pt e : So ε ρ) N C B T = RsP0 (m e) fun a e1 => N (pt a e1) := by unfold mAsgN; rw [sp_so_0]; rfl
theorem sp_if_0 {c : ε → Rs ε Bool} {m n : ε → So ε ρ} : SoP0 (mIfS c m n e) N C B T = RsP0 (c e) fun b e1 => if b = true then SoP0 (m e1) N C B T else SoP0 (n e1) N C B T := by
  unfold mIfS; rw [sp_so_0]; congr; funext b e1; exact sp_ite_0
theorem sp_next_0 : SoP0 (mNext e : So ε ρ) N C B T = N e := propext ⟨fun h => h, fun h => h⟩
theorem sp_mbk_0 : SoP0 (mBrk e : So ε ρ) N C B T = B e := propext ⟨fun h => h, fun h => h⟩
theorem sp_mct_0 : SoP0 (mCt e : So ε ρ) N C B T = C e := propext ⟨fun h => h, fun h => h⟩
theorem rp_un_0 {g : β → Option α} {m : ε → Rs ε β} : RsP0 (mUn g m e) Q = RsP0 (m e) fun b e1 => OpP0 (g b) fun a => Q a e1 := by unfold mUn; rw [rp_bind_0]; congr; funext b e1; exact rp_of_0
theorem rp_op_0 {g : β → γ → Option α} {m : ε → Rs ε β} {n : ε → Rs ε γ} : RsP0 (mOp g m n e) Q = RsP0 (m e) fun b e1 => RsP0 (n e1) fun c e2 => OpP0 (g b c) fun a => Q a e2 := by
  unfold mOp; rw [rp_bind_0]; congr; funext b e1; rw [rp_bind_0]; congr; funext c e2; exact rp_of_0
theorem rp_var_0 {l : Ln ε α} : RsP0 (mVar l e) Q = OpP0 (l.get e) fun a => Q a e := rp_of_0
theorem rp_move_0 {l : Ln ε α} : RsP0 (mMove l e) Q = OpP0 (l.get e) fun a => Q a (l.put none e) := rp_of_0
theorem rp_c_0 {a : α} : RsP0 (mC a e) Q = Q a e := propext ⟨fun h => h, fun h => h⟩
theorem rp_opL_0 {g : β → γ → Option α} {l : Ln ε β} {m : ε → Rs ε γ} : RsP0 (mOpL g l m e) Q = OpP0 (l.get e) fun _ => RsP0 (m e) fun c e1 => OpP0 (l.get e1) fun b => OpP0 (g b c) fun a => Q a e1 := by
  unfold mOpL
  cases l.get e with
  | none => rfl
  | some x =>
    simp only [rp_bind_0, OpP0]
    congr; funext c e1; rw [rp_var_0]; congr; funext b; exact rp_of_0
theorem rp_pair_0 {m : ε → Rs ε α} {n : ε → Rs ε β} {Q : α × β → ε → Prop} : RsP0 (mPair m n e) Q = RsP0 (m e) fun a e1 => RsP0 (n e1) fun b e2 => Q (a, b) e2 := by unfold mPair; rw [rp_bind_0]; congr; funext a e1; rw [rp_bind_0]; rfl
theorem rp_pairL_0 {l : Ln ε α} {n : ε → Rs ε β} {Q : α × β → ε → Prop} : RsP0 (mPairL l n e) Q = OpP0 (l.get e) fun _ => RsP0 (n e) fun b e1 => OpP0 (l.get e1) fun a => Q (a, b) e1 := by
  unfold mPairL
  cases l.get e with
  | none => rfl
  | some x =>
    simp only [rp_bind_0, OpP0]
    congr; funext c e1; rw [rp_var_0]; rfl
theorem rp_cons_0 {m : ε → Rs ε α} {n : ε → Rs ε (List α)} {Q : List α → ε → Prop} : RsP0 (mCons m n e) Q = RsP0 (m e) fun a e1 => RsP0 (n e1) fun b e2 => Q (a :: b) e2 := by unfold mCons; rw [rp_bind_0]; congr; funext a e1; rw [rp_bind_0]; rfl
theorem rp_call_0 {f : β → Rs Unit α} {m : ε → Rs ε β} : RsP0 (mCall f m e) Q = RsP0 (m e) fun b e1 => RsP0 (f b) fun a _ => Q a e1 := by unfold mCall; rw [rp_bind_0]; congr; funext b e1; exact rp_run_0
theorem rp_callI_0 {l : Ln ε ι} {f : ι → β → Rs ι α} {m : ε → Rs ε β} : RsP0 (mCallI l f m e) Q = OpP0 (l.get e) fun _ => RsP0 (m e) fun b e1 => OpP0 (l.get e1) fun s => RsP0 (f s b) fun a s' => Q a (l.put (some s') (l.put none e1)) := by
  unfold mCallI
  cases l.get e with
  | none => rfl
  | some x =>
    simp only [rp_bind_0, OpP0]
    congr; funext b e1
    cases l.get e1 with
    | none => rfl
    | some s => cases h : f s b <;> simp only [h] <;> rfl
theorem rp_bm_0 {l : Ln ε ι} {g : ι → β → Option (α × ι)} {m : ε → Rs ε β} : RsP0 (mBM l g m e) Q = OpP0 (l.get e) fun _ => RsP0 (m e) fun b e1 => OpP0 (l.get e1) fun s => OpP0 (g s b) fun p => Q p.1 (l.put (some p.2) (l.put none e1)) := by
  unfold mBM
  cases l.get e with
  | none => rfl
  | some x =>
    simp only [rp_bind_0, OpP0]
    congr; funext b e1
    cases l.get e1 with
    | none => rfl
    | some s => cases h : g s b <;> simp only [h] <;> rfl
theorem rp_bm0_0 {l : Ln ε ι} {g : ι → Unit → Option (α × ι)} : RsP0 (mBM0 l g e) Q = OpP0 (l.get e) fun _ => OpP0 (l.get e) fun s => OpP0 (g s ()) fun p => Q p.1 (l.put (some p.2) (l.put none e)) := rp_bm_0
theorem sp_setI_0 {l : Ln ε γ} {g : γ → α → β → Option γ} {mi : ε → Rs ε α} {m : ε → Rs ε β} : SoP0 (mSetI l g mi m e : So ε ρ) N C B T = RsP0 (m e) fun y e1 => OpP0 (l.get e1) fun _ => RsP0 (mi e1) fun x e2 => OpP0 (l.get e2) fun s => OpP0 (g s x y) fun s' => N (l.put (some s') (l.put none e2)) := by
  unfold mSetI
  rw [sp_so_0]; congr; funext y e1
  cases l.get e1 with
  | none => rfl
  | some s =>
    simp only [sp_so_0, OpP0]
    congr; funext x e2
    cases l.get e2 with
    | none => rfl
    | some s => cases h : g s x y <;> simp only [h] <;> rfl
theorem rp_not_0 {m : ε → Rs ε Bool} {Q : Bool → ε → Prop} : RsP0 (mNot m e) Q = RsP0 (m e) fun b e1 => Q (!b) e1 := by unfold mNot; rw [rp_bind_0]; rfl
theorem rp_and_0 {m n : ε → Rs ε Bool} {Q : Bool → ε → Prop} : RsP0 (mAnd m n e) Q = RsP0 (m e) fun b e1 => if b = true then RsP0 (n e1) Q else Q false e1 := by unfold mAnd; rw [rp_bind_0]; congr; funext b e1; exact rp_ite_0
theorem rp_or_0 {m n : ε → Rs ε Bool} {Q : Bool → ε → Prop} : RsP0 (mOr m n e) Q = RsP0 (m e) fun b e1 => if b = true then Q true e1 else RsP0 (n e1) Q := by unfold mOr; rw [rp_bind_0]; congr; funext b e1; exact rp_ite_0
theorem rp_if_0 {c : ε → Rs ε Bool} {m n : ε → Rs ε α} : RsP0 (mIf c m n e) Q = RsP0 (c e) fun b e1 => if b = true then RsP0 (m e1) Q else RsP0 (n e1) Q := by unfold mIf; rw [rp_bind_0]; congr; funext b e1; exact rp_ite_0
theorem rp_chain_0 {g : α → β → Option Bool} {g' : β → γ → Option Bool} {m : ε → Rs ε α} {n : ε → Rs ε β} {k : ε → Rs ε γ} {Q : Bool → ε → Prop} : RsP0 (mChain g g' m n k e) Q = RsP0 (m e) fun a e1 => RsP0 (n e1) fun b e2 => OpP0 (g a b) fun c => if c = true then RsP0 (k e2) fun d e3 => OpP0 (g' b d) fun z => Q z e3 else Q false e2 := by
  unfold mChain
  rw [rp_bind_0]; congr; funext a e1; rw [rp_bind_0]; congr; funext b e2; rw [rp_bind_0, rp_of_0]; congr; funext c; rw [rp_ite_0, rp_bind_0]
  split
  · congr; funext d e3; exact rp_of_0
  · rfl
theorem rp_mSome_0 {m : ε → Rs ε α} {Q : Option α → ε → Prop} : RsP0 (mSome m e) Q = RsP0 (m e) fun a e1 => Q (some a) e1 := by unfold mSome; rw [rp_bind_0]; rfl
theorem rp_mNone_0 {m : ε → Rs ε Unit} {Q : Option α → ε → Prop} : RsP0 (mNone m e) Q = RsP0 (m e) fun a e1 => Q none e1 := by unfold mNone; rw [rp_bind_0]; rfl
theorem rp_part_0 {m : ε → Rs ε Int} {Q : Option Int → ε → Prop} : RsP0 (mPart m e) Q = RsP0 (m e) fun a e1 => Q (some a) e1 := by unfold mPart; rw [rp_bind_0]; rfl
theorem rp_sl_0 {g : β → Option Int → Option Int → Option α} {m : ε → Rs ε β} {lo hi : ε → Rs ε (Option Int)} : RsP0 (mSl g m lo hi e) Q = RsP0 (m e) fun b e1 => RsP0 (lo e1) fun l e2 => RsP0 (hi e2) fun u e3 => OpP0 (g b l u) fun a => Q a e3 := by
  unfold mSl
  rw [rp_bind_0]; congr; funext b e1; rw [rp_bind_0]; congr; funext l e2; rw [rp_bind_0]; congr; funext u e3; exact rp_of_0
theorem rp_slL_0 {g : β → Option Int → Option Int → Option α} {l : Ln ε β} {lo hi : ε → Rs ε (Option Int)} : RsP0 (mSlL g l lo hi e) Q = OpP0 (l.get e) fun _ => RsP0 (lo e) fun l1 e2 => RsP0 (hi e2) fun u e3 => OpP0 (l.get e3) fun b => OpP0 (g b l1 u) fun a => Q a e3 := by
  unfold mSlL
  cases l.get e with
  | none => rfl
  | some x =>
    simp only [rp_bind_0, OpP0]
    congr; funext l1 e2; congr; funext u e3; rw [rp_var_0]; congr; funext b; exact rp_of_0
theorem rp_rng1_0 {m : ε → Rs ε Int} {Q : List Int → ε → Prop} : RsP0 (mRng1 m e) Q = RsP0 (m e) fun n e1 => bigI n = true ∧ Q (rng 0 n) e1 := by
  unfold mRng1; rw [rp_bind_0]; congr; funext n e1; rw [rp_ite_0]
  by_cases h : bigI n = true
  · simp [h, rp_ok_0]
  · simp [h, rp_bad_0]
theorem rp_rng2_0 {m : ε → Rs ε (Int × Int)} {Q : List Int → ε → Prop} : RsP0 (mRng2 m e) Q = RsP0 (m e) fun n e1 => (bigI n.1 = true ∧ bigI n.2 = true) ∧ Q (rng n.1 n.2) e1 := by
  unfold mRng2; rw [rp_bind_0]; congr; funext n e1; rw [rp_ite_0]
  by_cases h : bigI n.1 = true ∧ bigI n.2 = true
  · simp [h, rp_ok_0]
  · simp [h, rp_bad_0]
theorem rp_enum_0 {m : ε → Rs ε (List α)} {Q : List (Int × α) → ε → Prop} : RsP0 (mEnum m e) Q = RsP0 (m e) fun xs e1 => Q (enumF xs) e1 := by unfold mEnum; rw [rp_bind_0]; rfl
theorem rp_lock_0 {l : Ln ε γ} {m : ε → Rs ε α} : RsP0 (mLock l m e) Q = OpP0 (l.get e) fun x => RsP0 (m (l.put (some x) e)) fun a e1 => Q a (l.put (some x) (l.put none e1)) := by
  unfold mLock
  cases l.get e with
  | none => rfl
  | some x => simp only [OpP0]; cases m (l.put (some x) e) <;> rfl
theorem rp_dget2_0 [DecidableEq κ] {l : Ln ε (List (κ × β))} {m : ε → Rs ε κ} {x : ε → Rs ε β} {Q : β → ε → Prop} : RsP0 (mDGet2 l m x e) Q = OpP0 (l.get e) fun _ => RsP0 (m e) fun a e1 => RsP0 (x e1) fun b e2 => OpP0 (l.get e2) fun kbs => Q ((dget kbs a).getD b) e2 := by
  unfold mDGet2
  cases l.get e with
  | none => rfl
  | some y =>
    simp only [rp_bind_0, OpP0]
    congr; funext a e1; congr; funext b e2; rw [rp_var_0]; rfl
theorem rp_keys_0 {l : Ln ε (List (κ × β))} {Q : List κ → ε → Prop} : RsP0 (mKeys l e) Q = OpP0 (l.get e) fun kbs => Q (keysOf kbs) e := by unfold mKeys; rw [rp_bind_0, rp_var_0]; rfl
theorem rp_lc_0 {it : ε → Rs ε (List α)} {pt : α → ε → ε} {tt : ε → Rs ε Bool} {te : ε → Rs ε β} {kill : ε → ε} {rst : ε → ε → ε} {Q : List β → ε → Prop} : RsP0 (mLc it pt tt te kill rst e) Q = RsP0 (it e) fun xs e1 => xs.length ≤ 1000000 ∧ RsP0 (lcR pt tt te kill xs (kill e1) []) fun ys e2 => Q ys (rst e1 e2) := by
  unfold mLc; rw [rp_bind_0]; congr; funext xs e1; rw [rp_ite_0]
  by_cases h : xs.length ≤ 1000000
  · simp only [h, if_true, true_and, rp_bind_0]; rfl
  · simp [h, rp_bad_0]
theorem rp_yes_0 {Q : Bool → ε → Prop} : RsP0 (mYes e) Q = Q true e := propext ⟨fun h => h, fun h => h⟩
theorem iteI {c : Prop} {inst : Decidable c} {A B : Prop} (h1 : c → A) (h2 : ¬ c → B) : @ite Prop c inst A B := by
  by_cases h : c
  · rw [if_pos h]; exact h1 h
  · rw [if_neg h]; exact h2 h
/-! ### what a def gives -/
theorem rp_runD_0 {x : So ε ρ} {Q : ρ → Unit → Prop} : RsP0 (x.run none) Q = SoP0 x (fun _ => False) (fun _ => False) (fun _ => False) fun a _ => Q a () := by cases x <;> rfl
theorem rp_runDS_0 {x : So ε ρ} {d : ρ} {Q : ρ → Unit → Prop} : RsP0 (x.run (some d)) Q = SoP0 x (fun _ => Q d ()) (fun _ => False) (fun _ => False) fun a _ => Q a () := by cases x <;> rfl
theorem rp_runI_0 {x : So ε ρ} {l : Ln ε ι} {Q : ρ → ι → Prop} : RsP0 (x.runI l none) Q = SoP0 x (fun _ => False) (fun _ => False) (fun _ => False) fun a e => OpP0 (l.get e) fun s => Q a s := by
  unfold So.runI
  cases x with
  | rt a e => simp only [sp_rt_0]; cases h : l.get e <;> simp only [h] <;> rfl
  | nx e => simp only [sp_nx_0]; cases h : l.get e <;> simp only [h] <;> rfl
  | ex c e => cases h : l.get e <;> simp only [h] <;> rfl
  | bk e => rfl
  | ct e => rfl
  | bad => rfl
theorem rp_runIS_0 {x : So ε ρ} {l : Ln ε ι} {d : ρ} {Q : ρ → ι → Prop} : RsP0 (x.runI l (some d)) Q = SoP0 x (fun e => OpP0 (l.get e) fun s => Q d s) (fun _ => False) (fun _ => False) fun a e => OpP0 (l.get e) fun s => Q a s := by
  unfold So.runI
  cases x with
  | rt a e => simp only [sp_rt_0]; cases h : l.get e <;> simp only [h] <;> rfl
  | nx e => simp only [sp_nx_0]; cases h : l.get e <;> simp only [h] <;> rfl
  | ex c e => cases h : l.get e <;> simp only [h] <;> rfl
  | bk e => rfl
  | ct e => rfl
  | bad => rfl
/-- a word between a statement and the rest -/
theorem cutP_0 {m n : ε → So ε ρ} (Mid : ε → Prop) (h1 : SoP0 (m e) Mid C B T) (h2 : ∀ e1, Mid e1 → SoP0 (n e1) N C B T) : SoP0 (mCut m n e) N C B T := by
  unfold mCut
  rw [sp_seq_0]
  exact h1.imp h2 (fun _ h => h) (fun _ h => h) fun _ _ h => h
/-- a test of several parts, by what it asks -/
theorem ifB_0 {c : ε → Rs ε Bool} {m n : ε → So ε ρ} {e' : ε} (p : Prop) (hc : RsP0 (c e) fun b e1 => (b = true ↔ p) ∧ e1 = e') (h1 : p → SoP0 (m e') N C B T) (h2 : ¬ p → SoP0 (n e') N C B T) : SoP0 (mIfB c m n e) N C B T := by
  unfold mIfB
  rw [sp_if_0]
  refine hc.imp ?_
  rintro b e1 ⟨hb, rfl⟩
  by_cases h : p
  · rw [if_pos (hb.mpr h)]
    exact h1 h
  · rw [if_neg fun z => h (hb.mp z)]
    exact h2 h
/-! ### loops -/
/-- a loop by what holds ahead of each turn -/
theorem loopP_0 {b : α → ε → So ε ρ} {xs : List α} {e : ε} (P : Nat → ε → Prop) (h0 : P 0 e) (hs : ∀ i x e, xs[i]? = some x → P i e → SoP0 (b x e) (P (i + 1)) (P (i + 1)) N T) (hd : ∀ e, P xs.length e → N e) : SoP0 (mLoop b xs e) N C B T := by
  suffices h : ∀ (ys : List α) (i : Nat) (e : ε), (∀ j x, ys[j]? = some x → xs[i + j]? = some x) → i + ys.length = xs.length → P i e → SoP0 (mLoop b ys e) N C B T from h xs 0 e (fun j x h => by simpa using h) (by simp) h0
  intro ys
  induction ys with
  | nil => intro i e _ hl p; exact hd e (by simp at hl; rw [← hl]; exact p)
  | cons y ys ih =>
    intro i e hx hl p
    have h1 := hs i y e (by simpa using hx 0 y rfl) p
    unfold mLoop
    revert h1
    cases b y e with
    | nx e1 => exact fun h1 => ih (i + 1) e1 (fun j x h => by rw [Nat.add_assoc, Nat.add_comm 1 j]; exact hx (j + 1) x (by simpa using h)) (by simp at hl; omega) h1
    | ct e1 => exact fun h1 => ih (i + 1) e1 (fun j x h => by rw [Nat.add_assoc, Nat.add_comm 1 j]; exact hx (j + 1) x (by simpa using h)) (by simp at hl; omega) h1
    | bk e1 => exact id
    | rt a e1 => exact id
    | ex c e1 => exact id
    | bad => exact id
/-- a loop over a range -/
theorem loopR_0 {b : Int → ε → So ε ρ} {n : Nat} {hi : Int} {e : ε} (hn : hi = (n : Int)) (P : Nat → ε → Prop) (h0 : P 0 e) (hs : ∀ (i : Nat) e, i < n → P i e → SoP0 (b (i : Int) e) (P (i + 1)) (P (i + 1)) N T) (hd : ∀ e, P n e → N e) : SoP0 (mLoop b (rng 0 hi) e) N C B T := by
  subst hn
  refine loopP_0 P h0 (fun i x e hx p => ?_) (fun e p => hd e ?_)
  · obtain ⟨h1, h2⟩ := rng_get hx
    rw [h2, Int.zero_add]
    exact hs i e (by omega) p
  · rw [rng_length] at p
    simpa using p
/-! ### comprehensions -/
/-- whose turns change nothing -/
theorem lcP_0 {pt : α → ε → ε} {tt : ε → Rs ε Bool} {te : ε → Rs ε β} {kill : ε → ε} {xs : List α} {e : ε} {Q : List β → ε → Prop} (p : α → Bool) (f : α → β)
    (h : ∀ x ∈ xs, RsP0 (tt (pt x e)) fun b e1 => b = p x ∧ if p x = true then RsP0 (te e1) fun y e2 => y = f x ∧ kill e2 = e else kill e1 = e) (q : Q ((xs.filter p).map f) e) : RsP0 (lcR pt tt te kill xs e []) Q := by
  suffices hh : ∀ (ys : List α) (acc : List β), (∀ y ∈ ys, y ∈ xs) → lcR pt tt te kill ys e acc = .ok (acc ++ (ys.filter p).map f) e from by
    rw [hh xs [] fun _ h => h]
    exact q
  intro ys
  induction ys with
  | nil => intro acc _; simp [lcR]
  | cons y ys ih =>
    intro acc hy
    obtain ⟨b, e1, h1, rfl, h2⟩ := (h y (hy y List.mem_cons_self)).ex
    unfold lcR
    rw [h1, Rs.bindN_ok]
    by_cases hp : p y = true
    · rw [if_pos hp] at h2 ⊢
      obtain ⟨z, e2, h3, rfl, h4⟩ := h2.ex
      rw [h3, Rs.bindN_ok, h4, ih _ fun x hx => hy x (List.mem_cons_of_mem _ hx), List.filter_cons, if_pos hp]
      simp
    · rw [if_neg hp] at h2 ⊢
      rw [h2, ih _ fun x hx => hy x (List.mem_cons_of_mem _ hx), List.filter_cons, if_neg hp]
theorem lcM_0 {pt : α → ε → ε} {te : ε → Rs ε β} {kill : ε → ε} {xs : List α} {e : ε} {Q : List β → ε → Prop} (f : α → β) (h : ∀ x ∈ xs, RsP0 (te (pt x e)) fun y e2 => y = f x ∧ kill e2 = e) (q : Q (xs.map f) e) : RsP0 (lcR pt mYes te kill xs e []) Q := by
  refine lcP_0 (fun _ => true) f (fun x hx => ?_) (by rw [List.filter_eq_self.mpr (fun _ _ => rfl)]; exact q)
  simp only [rp_yes_0, if_true, true_and]
  exact h x hx
/-- by what holds of the list so far -/
theorem lcI_0 {pt : α → ε → ε} {te : ε → Rs ε β} {kill : ε → ε} {xs : List α} {e : ε} {Q : List β → ε → Prop} (P : Nat → List β → ε → Prop) (h0 : P 0 [] e) (h : ∀ i x acc e, xs[i]? = some x → P i acc e → RsP0 (te (pt x e)) fun y e2 => P (i + 1) (acc ++ [y]) (kill e2)) (q : ∀ acc e, P xs.length acc e → Q acc e) : RsP0 (lcR pt mYes te kill xs e []) Q := by
  suffices hh : ∀ (ys : List α) (i : Nat) (acc : List β) (e : ε), (∀ j x, ys[j]? = some x → xs[i + j]? = some x) → i + ys.length = xs.length → P i acc e → RsP0 (lcR pt mYes te kill ys e acc) Q from hh xs 0 [] e (fun j x h => by simpa using h) (by simp) h0
  intro ys
  induction ys with
  | nil => intro i acc e _ hl p; simp at hl; exact q acc e (hl ▸ p)
  | cons y ys ih =>
    intro i acc e hx hl p
    obtain ⟨z, e2, h3, h4⟩ := (h i y acc e (by simpa using hx 0 y rfl) p).ex
    unfold lcR
    rw [show mYes (pt y e) = .ok true (pt y e) from rfl, Rs.bindN_ok, if_pos rfl, h3, Rs.bindN_ok]
    exact ih (i + 1) _ _ (fun j x h => by rw [Nat.add_assoc, Nat.add_comm 1 j]; exact hx (j + 1) x (by simpa using h)) (by simp at hl; omega) h4
/-- it comes to an end well, and Q holds of what it gives (a thing by itself: nothing is computed where it stands) -/
inductive RsP {ε α : Type} : Rs ε α → (α → ε → Prop) → Prop
  | mk {a : α} {e : ε} {Q : α → ε → Prop} (h : Q a e) : RsP (.ok a e) Q
inductive SoP {ε ρ : Type} : So ε ρ → (ε → Prop) → (ε → Prop) → (ε → Prop) → (ρ → ε → Prop) → Prop
  | nx {e : ε} {N C B : ε → Prop} {T : ρ → ε → Prop} (h : N e) : SoP (.nx e) N C B T
  | ct {e : ε} {N C B : ε → Prop} {T : ρ → ε → Prop} (h : C e) : SoP (.ct e) N C B T
  | bk {e : ε} {N C B : ε → Prop} {T : ρ → ε → Prop} (h : B e) : SoP (.bk e) N C B T
  | rt {a : ρ} {e : ε} {N C B : ε → Prop} {T : ρ → ε → Prop} (h : T a e) : SoP (.rt a e) N C B T
inductive OpP {α : Type} : Option α → (α → Prop) → Prop
  | mk {a : α} {Q : α → Prop} (h : Q a) : OpP (some a) Q
theorem RsP_eq {x : Rs ε α} {Q : α → ε → Prop} : RsP x Q = RsP0 x Q := by
  refine propext ⟨fun h => by cases h with | mk h => exact h, fun h => ?_⟩
  cases x with
  | ok a e => exact .mk h
  | ex c e => exact h.elim
  | bad => exact h.elim
theorem SoP_eq {x : So ε ρ} {N C B : ε → Prop} {T : ρ → ε → Prop} : SoP x N C B T = SoP0 x N C B T := by
  refine propext ⟨fun h => by cases h with | nx h => exact h | ct h => exact h | bk h => exact h | rt h => exact h, fun h => ?_⟩
  cases x with
  | nx e => exact .nx h
  | ct e => exact .ct h
  | bk e => exact .bk h
  | rt a e => exact .rt h
  | ex c e => exact h.elim
  | bad => exact h.elim
theorem OpP_eq {x : Option α} {Q : α → Prop} : OpP x Q = OpP0 x Q := by
  refine propext ⟨fun h => by cases h with | mk h => exact h, fun h => ?_⟩
  cases x with
  | some a => exact .mk h
  | none => exact h.elim

theorem RsP.imp {x : Rs ε α} {P Q : α → ε → Prop} (h : RsP x P) (k : ∀ a e, P a e → Q a e) : RsP x Q := by
  simp only [RsP_eq, SoP_eq, OpP_eq] at *
  exact RsP0.imp h k
theorem RsP.ex {x : Rs ε α} (h : RsP x Q) : ∃ a e, x = .ok a e ∧ Q a e := by
  simp only [RsP_eq, SoP_eq, OpP_eq] at *
  exact RsP0.ex h
theorem RsP.of_eq {x : Rs ε α} (h : x = .ok a e) (q : Q a e) : RsP x Q := by
  simp only [RsP_eq, SoP_eq, OpP_eq] at *
  exact RsP0.of_eq h q
theorem SoP.imp {x : So ε ρ} {N N' C C' B B' : ε → Prop} {T T' : ρ → ε → Prop} (h : SoP x N C B T) (n : ∀ e, N e → N' e) (c : ∀ e, C e → C' e) (b : ∀ e, B e → B' e) (t : ∀ a e, T a e → T' a e) : SoP x N' C' B' T' := by
  simp only [RsP_eq, SoP_eq, OpP_eq] at *
  exact SoP0.imp h n c b t
theorem rp_ok : RsP (.ok a e) Q = Q a e := by
  simp only [RsP_eq, SoP_eq, OpP_eq]
  exact rp_ok_0
theorem rp_bad : RsP (.bad : Rs ε α) Q = False := by
  simp only [RsP_eq, SoP_eq, OpP_eq]
  exact rp_bad_0
theorem rp_of {o : Option α} : RsP (.of o e) Q = OpP o fun a => Q a e := by
  simp only [RsP_eq, SoP_eq, OpP_eq]
  exact rp_of_0
theorem op_some {Q : α → Prop} : OpP (some a) Q = Q a := by
  simp only [RsP_eq, SoP_eq, OpP_eq]
  exact op_some_0
theorem op_ite {c : Prop} [Decidable c] {o : Option α} {Q : α → Prop} : OpP (if c then o else none) Q = (c ∧ OpP o Q) := by
  simp only [RsP_eq, SoP_eq, OpP_eq]
  exact op_ite_0
theorem rp_bind {x : Rs ε β} {f : β → ε → Rs ε α} : RsP (x.bind f) Q = RsP x fun b e1 => RsP (f b e1) Q := by
  simp only [RsP_eq, SoP_eq, OpP_eq]
  exact rp_bind_0
theorem rp_bindN {x : Rs ε β} {f : β → ε → Rs ε α} : RsP (x.bindN f) Q = RsP x fun b e1 => RsP (f b e1) Q := by
  simp only [RsP_eq, SoP_eq, OpP_eq]
  exact rp_bindN_0
theorem rp_run {x : Rs Unit α} : RsP (x.run e) Q = RsP x fun b _ => Q b e := by
  simp only [RsP_eq, SoP_eq, OpP_eq]
  exact rp_run_0
theorem rp_ite {c : Prop} [Decidable c] {x y : Rs ε α} : RsP (if c then x else y) Q = if c then RsP x Q else RsP y Q := by
  simp only [RsP_eq, SoP_eq, OpP_eq]
  exact rp_ite_0
theorem sp_nx : SoP (.nx e : So ε ρ) N C B T = N e := by
  simp only [RsP_eq, SoP_eq, OpP_eq]
  exact sp_nx_0
theorem sp_ct : SoP (.ct e : So ε ρ) N C B T = C e := by
  simp only [RsP_eq, SoP_eq, OpP_eq]
  exact sp_ct_0
theorem sp_bk : SoP (.bk e : So ε ρ) N C B T = B e := by
  simp only [RsP_eq, SoP_eq, OpP_eq]
  exact sp_bk_0
theorem sp_rt {r : ρ} : SoP (.rt r e) N C B T = T r e := by
  simp only [RsP_eq, SoP_eq, OpP_eq]
  exact sp_rt_0
theorem sp_so {x : Rs ε α} {f : α → ε → So ε ρ} : SoP (x.so f) N C B T = RsP x fun a e1 => SoP (f a e1) N C B T := by
  simp only [RsP_eq, SoP_eq, OpP_eq]
  exact sp_so_0
theorem sp_ite {c : Prop} [Decidable c] {x y : So ε ρ} : SoP (if c then x else y) N C B T = if c then SoP x N C B T else SoP y N C B T := by
  simp only [RsP_eq, SoP_eq, OpP_eq]
  exact sp_ite_0
theorem sp_seq {m n : ε → So ε ρ} : SoP (mSeq m n e) N C B T = SoP (m e) (fun e1 => SoP (n e1) N C B T) C B T := by
  simp only [RsP_eq, SoP_eq, OpP_eq]
  exact sp_seq_0
theorem sp_kill {k : ε → ε} {m : ε → So ε ρ} : SoP (mKill k m e) N C B T = SoP (m e) (fun e1 => N (k e1)) (fun e1 => C (k e1)) (fun e1 => B (k e1)) T := by
  simp only [RsP_eq, SoP_eq, OpP_eq]
  exact sp_kill_0
theorem sp_for {m : ε → Rs ε (List α)} {pt : α → ε → ε} {b : ε → So ε ρ} : SoP (mFor m pt b e) N C B T = RsP (m e) fun xs e1 => SoP (mLoop (fun x e => b (pt x e)) xs e1) N C B T := by
  simp only [RsP_eq, SoP_eq, OpP_eq]
  exact sp_for_0
theorem sp_ret {m : ε → Rs ε ρ} : SoP (mRet m e) N C B T = RsP (m e) T := by
  simp only [RsP_eq, SoP_eq, OpP_eq]
  exact sp_ret_0
theorem sp_drop {m : ε → Rs ε α} : SoP (mDrop m e : So ε ρ) N C B T = RsP (m e) fun _ e1 => N e1 := by
  simp only [RsP_eq, SoP_eq, OpP_eq]
  exact sp_drop_0
theorem sp_set {l : Ln ε α} {m : ε → Rs ε α} : SoP (mSet l m e : So ε ρ) N C B T = RsP (m e) fun a e1 => N (l.put (some a) e1) := by
  simp only [RsP_eq, SoP_eq, OpP_eq]
  exact sp_set_0
theorem sp_asgN {m : ε → Rs ε α} {pt : α → ε → ε} : SoP (mAsgN m pt e : So ε ρ) N C B T = RsP (m e) fun a e1 => N (pt a e1) := by
  simp only [RsP_eq, SoP_eq, OpP_eq]
  exact sp_asgN_0
theorem sp_if {c : ε → Rs ε Bool} {m n : ε → So ε ρ} : SoP (mIfS c m n e) N C B T = RsP (c e) fun b e1 => if b = true then SoP (m e1) N C B T else SoP (n e1) N C B T := by
  simp only [RsP_eq, SoP_eq, OpP_eq]
  exact sp_if_0
theorem sp_next : SoP (mNext e : So ε ρ) N C B T = N e := by
  simp only [RsP_eq, SoP_eq, OpP_eq]
  exact sp_next_0
theorem sp_mbk : SoP (mBrk e : So ε ρ) N C B T = B e := by
  simp only [RsP_eq, SoP_eq, OpP_eq]
  exact sp_mbk_0
theorem sp_mct : SoP (mCt e : So ε ρ) N C B T = C e := by
  simp only [RsP_eq, SoP_eq, OpP_eq]
  exact sp_mct_0
theorem rp_un {g : β → Option α} {m : ε → Rs ε β} : RsP (mUn g m e) Q = RsP (m e) fun b e1 => OpP (g b) fun a => Q a e1 := by
  simp only [RsP_eq, SoP_eq, OpP_eq]
  exact rp_un_0
theorem rp_op {g : β → γ → Option α} {m : ε → Rs ε β} {n : ε → Rs ε γ} : RsP (mOp g m n e) Q = RsP (m e) fun b e1 => RsP (n e1) fun c e2 => OpP (g b c) fun a => Q a e2 := by
  simp only [RsP_eq, SoP_eq, OpP_eq]
  exact rp_op_0
theorem rp_var {l : Ln ε α} : RsP (mVar l e) Q = OpP (l.get e) fun a => Q a e := by
  simp only [RsP_eq, SoP_eq, OpP_eq]
  exact rp_var_0
theorem rp_move {l : Ln ε α} : RsP (mMove l e) Q = OpP (l.get e) fun a => Q a (l.put none e) := by
  simp only [RsP_eq, SoP_eq, OpP_eq]
  exact rp_move_0
theorem rp_c {a : α} : RsP (mC a e) Q = Q a e := by
  simp only [RsP_eq, SoP_eq, OpP_eq]
  exact rp_c_0
theorem rp_opL {g : β → γ → Option α} {l : Ln ε β} {m : ε → Rs ε γ} : RsP (mOpL g l m e) Q = OpP (l.get e) fun _ => RsP (m e) fun c e1 => OpP (l.get e1) fun b => OpP (g b c) fun a => Q a e1 := by
  simp only [RsP_eq, SoP_eq, OpP_eq]
  exact rp_opL_0
theorem rp_pair {m : ε → Rs ε α} {n : ε → Rs ε β} {Q : α × β → ε → Prop} : RsP (mPair m n e) Q = RsP (m e) fun a e1 => RsP (n e1) fun b e2 => Q (a, b) e2 := by
  simp only [RsP_eq, SoP_eq, OpP_eq]
  exact rp_pair_0
theorem rp_pairL {l : Ln ε α} {n : ε → Rs ε β} {Q : α × β → ε → Prop} : RsP (mPairL l n e) Q = OpP (l.get e) fun _ => RsP (n e) fun b e1 => OpP (l.get e1) fun a => Q (a, b) e1 := by
  simp only [RsP_eq, SoP_eq, OpP_eq]
  exact rp_pairL_0
theorem rp_cons {m : ε → Rs ε α} {n : ε → Rs ε (List α)} {Q : List α → ε → Prop} : RsP (mCons m n e) Q = RsP (m e) fun a e1 => RsP (n e1) fun b e2 => Q (a :: b) e2 := by
  simp only [RsP_eq, SoP_eq, OpP_eq]
  exact rp_cons_0
theorem rp_call {f : β → Rs Unit α} {m : ε → Rs ε β} : RsP (mCall f m e) Q = RsP (m e) fun b e1 => RsP (f b) fun a _ => Q a e1 := by
  simp only [RsP_eq, SoP_eq, OpP_eq]
  exact rp_call_0
theorem rp_callI {l : Ln ε ι} {f : ι → β → Rs ι α} {m : ε → Rs ε β} : RsP (mCallI l f m e) Q = OpP (l.get e) fun _ => RsP (m e) fun b e1 => OpP (l.get e1) fun s => RsP (f s b) fun a s' => Q a (l.put (some s') (l.put none e1)) := by
  simp only [RsP_eq, SoP_eq, OpP_eq]
  exact rp_callI_0
theorem rp_bm {l : Ln ε ι} {g : ι → β → Option (α × ι)} {m : ε → Rs ε β} : RsP (mBM l g m e) Q = OpP (l.get e) fun _ => RsP (m e) fun b e1 => OpP (l.get e1) fun s => OpP (g s b) fun p => Q p.1 (l.put (some p.2) (l.put none e1)) := by
  simp only [RsP_eq, SoP_eq, OpP_eq]
  exact rp_bm_0
theorem rp_bm0 {l : Ln ε ι} {g : ι → Unit → Option (α × ι)} : RsP (mBM0 l g e) Q = OpP (l.get e) fun _ => OpP (l.get e) fun s => OpP (g s ()) fun p => Q p.1 (l.put (some p.2) (l.put none e)) := by
  simp only [RsP_eq, SoP_eq, OpP_eq]
  exact rp_bm0_0
theorem sp_setI {l : Ln ε γ} {g : γ → α → β → Option γ} {mi : ε → Rs ε α} {m : ε → Rs ε β} : SoP (mSetI l g mi m e : So ε ρ) N C B T = RsP (m e) fun y e1 => OpP (l.get e1) fun _ => RsP (mi e1) fun x e2 => OpP (l.get e2) fun s => OpP (g s x y) fun s' => N (l.put (some s') (l.put none e2)) := by
  simp only [RsP_eq, SoP_eq, OpP_eq]
  exact sp_setI_0
theorem rp_not {m : ε → Rs ε Bool} {Q : Bool → ε → Prop} : RsP (mNot m e) Q = RsP (m e) fun b e1 => Q (!b) e1 := by
  simp only [RsP_eq, SoP_eq, OpP_eq]
  exact rp_not_0
theorem rp_and {m n : ε → Rs ε Bool} {Q : Bool → ε → Prop} : RsP (mAnd m n e) Q = RsP (m e) fun b e1 => if b = true then RsP (n e1) Q else Q false e1 := by
  simp only [RsP_eq, SoP_eq, OpP_eq]
  exact rp_and_0
theorem rp_or {m n : ε → Rs ε Bool} {Q : Bool → ε → Prop} : RsP (mOr m n e) Q = RsP (m e) fun b e1 => if b = true then Q true e1 else RsP (n e1) Q := by
  simp only [RsP_eq, SoP_eq, OpP_eq]
  exact rp_or_0
theorem rp_if {c : ε → Rs ε Bool} {m n : ε → Rs ε α} : RsP (mIf c m n e) Q = RsP (c e) fun b e1 => if b = true then RsP (m e1) Q else RsP (n e1) Q := by
  simp only [RsP_eq, SoP_eq, OpP_eq]
  exact rp_if_0
theorem rp_chain {g : α → β → Option Bool} {g' : β → γ → Option Bool} {m : ε → Rs ε α} {n : ε → Rs ε β} {k : ε → Rs ε γ} {Q : Bool → ε → Prop} : RsP (mChain g g' m n k e) Q = RsP (m e) fun a e1 => RsP (n e1) fun b e2 => OpP (g a b) fun c => if c = true then RsP (k e2) fun d e3 => OpP (g' b d) fun z => Q z e3 else Q false e2 := by
  simp only [RsP_eq, SoP_eq, OpP_eq]
  exact rp_chain_0
theorem rp_mSome {m : ε → Rs ε α} {Q : Option α → ε → Prop} : RsP (mSome m e) Q = RsP (m e) fun a e1 => Q (some a) e1 := by
  simp only [RsP_eq, SoP_eq, OpP_eq]
  exact rp_mSome_0
theorem rp_mNone {m : ε → Rs ε Unit} {Q : Option α → ε → Prop} : RsP (mNone m e) Q = RsP (m e) fun a e1 => Q none e1 := by
  simp only [RsP_eq, SoP_eq, OpP_eq]
  exact rp_mNone_0
theorem rp_part {m : ε → Rs ε Int} {Q : Option Int → ε → Prop} : RsP (mPart m e) Q = RsP (m e) fun a e1 => Q (some a) e1 := by
  simp only [RsP_eq, SoP_eq, OpP_eq]
  exact rp_part_0
theorem rp_sl {g : β → Option Int → Option Int → Option α} {m : ε → Rs ε β} {lo hi : ε → Rs ε (Option Int)} : RsP (mSl g m lo hi e) Q = RsP (m e) fun b e1 => RsP (lo e1) fun l e2 => RsP (hi e2) fun u e3 => OpP (g b l u) fun a => Q a e3 := by
  simp only [RsP_eq, SoP_eq, OpP_eq]
  exact rp_sl_0
theorem rp_slL {g : β → Option Int → Option Int → Option α} {l : Ln ε β} {lo hi : ε → Rs ε (Option Int)} : RsP (mSlL g l lo hi e) Q = OpP (l.get e) fun _ => RsP (lo e) fun l1 e2 => RsP (hi e2) fun u e3 => OpP (l.get e3) fun b => OpP (g b l1 u) fun a => Q a e3 := by
  simp only [RsP_eq, SoP_eq, OpP_eq]
  exact rp_slL_0
theorem rp_rng1 {m : ε → Rs ε Int} {Q : List Int → ε → Prop} : RsP (mRng1 m e) Q = RsP (m e) fun n e1 => bigI n = true ∧ Q (rng 0 n) e1 := by
  simp only [RsP_eq, SoP_eq, OpP_eq]
  exact rp_rng1_0
theorem rp_rng2 {m : ε → Rs ε (Int × Int)} {Q : List Int → ε → Prop} : RsP (mRng2 m e) Q = RsP (m e) fun n e1 => (bigI n.1 = true ∧ bigI n.2 = true) ∧ Q (rng n.1 n.2) e1 := by
  simp only [RsP_eq, SoP_eq, OpP_eq]
  exact rp_rng2_0
theorem rp_enum {m : ε → Rs ε (List α)} {Q : List (Int × α) → ε → Prop} : RsP (mEnum m e) Q = RsP (m e) fun xs e1 => Q (enumF xs) e1 := by
  simp only [RsP_eq, SoP_eq, OpP_eq]
  exact rp_enum_0
theorem rp_lock {l : Ln ε γ} {m : ε → Rs ε α} : RsP (mLock l m e) Q = OpP (l.get e) fun x => RsP (m (l.put (some x) e)) fun a e1 => Q a (l.put (some x) (l.put none e1)) := by
  simp only [RsP_eq, SoP_eq, OpP_eq]
  exact rp_lock_0
theorem rp_dget2 [DecidableEq κ] {l : Ln ε (List (κ × β))} {m : ε → Rs ε κ} {x : ε → Rs ε β} {Q : β → ε → Prop} : RsP (mDGet2 l m x e) Q = OpP (l.get e) fun _ => RsP (m e) fun a e1 => RsP (x e1) fun b e2 => OpP (l.get e2) fun kbs => Q ((dget kbs a).getD b) e2 := by
  simp only [RsP_eq, SoP_eq, OpP_eq]
  exact rp_dget2_0
theorem rp_keys {l : Ln ε (List (κ × β))} {Q : List κ → ε → Prop} : RsP (mKeys l e) Q = OpP (l.get e) fun kbs => Q (keysOf kbs) e := by
  simp only [RsP_eq, SoP_eq, OpP_eq]
  exact rp_keys_0
theorem rp_lc {it : ε → Rs ε (List α)} {pt : α → ε → ε} {tt : ε → Rs ε Bool} {te : ε → Rs ε β} {kill : ε → ε} {rst : ε → ε → ε} {Q : List β → ε → Prop} : RsP (mLc it pt tt te kill rst e) Q = RsP (it e) fun xs e1 => xs.length ≤ 1000000 ∧ RsP (lcR pt tt te kill xs (kill e1) []) fun ys e2 => Q ys (rst e1 e2) := by
  simp only [RsP_eq, SoP_eq, OpP_eq]
  exact rp_lc_0
theorem rp_yes {Q : Bool → ε → Prop} : RsP (mYes e) Q = Q true e := by
  simp only [RsP_eq, SoP_eq, OpP_eq]
  exact rp_yes_0
theorem rp_runD {x : So ε ρ} {Q : ρ → Unit → Prop} : RsP (x.run none) Q = SoP x (fun _ => False) (fun _ => False) (fun _ => False) fun a _ => Q a () := by
  simp only [RsP_eq, SoP_eq, OpP_eq]
  exact rp_runD_0
theorem rp_runDS {x : So ε ρ} {d : ρ} {Q : ρ → Unit → Prop} : RsP (x.run (some d)) Q = SoP x (fun _ => Q d ()) (fun _ => False) (fun _ => False) fun a _ => Q a () := by
  simp only [RsP_eq, SoP_eq, OpP_eq]
  exact rp_runDS_0
theorem rp_runI {x : So ε ρ} {l : Ln ε ι} {Q : ρ → ι → Prop} : RsP (x.runI l none) Q = SoP x (fun _ => False) (fun _ => False) (fun _ => False) fun a e => OpP (l.get e) fun s => Q a s := by
  simp only [RsP_eq, SoP_eq, OpP_eq]
  exact rp_runI_0
theorem rp_runIS {x : So ε ρ} {l : Ln ε ι} {d : ρ} {Q : ρ → ι → Prop} : RsP (x.runI l (some d)) Q = SoP x (fun e => OpP (l.get e) fun s => Q d s) (fun _ => False) (fun _ => False) fun a e => OpP (l.get e) fun s => Q a s := by
  simp only [RsP_eq, SoP_eq, OpP_eq]
  exact rp_runIS_0
theorem cutP {m n : ε → So ε ρ} (Mid : ε → Prop) (h1 : SoP (m e) Mid C B T) (h2 : ∀ e1, Mid e1 → SoP (n e1) N C B T) : SoP (mCut m n e) N C B T := by
  simp only [RsP_eq, SoP_eq, OpP_eq] at *
  exact cutP_0 Mid h1 h2
theorem ifB {c : ε → Rs ε Bool} {m n : ε → So ε ρ} {e' : ε} (p : Prop) (hc : RsP (c e) fun b e1 => (b = true ↔ p) ∧ e1 = e') (h1 : p → SoP (m e') N C B T) (h2 : ¬ p → SoP (n e') N C B T) : SoP (mIfB c m n e) N C B T := by
  simp only [RsP_eq, SoP_eq, OpP_eq] at *
  exact ifB_0 p hc h1 h2
theorem loopP {b : α → ε → So ε ρ} {xs : List α} {e : ε} (P : Nat → ε → Prop) (h0 : P 0 e) (hs : ∀ i x e, xs[i]? = some x → P i e → SoP (b x e) (P (i + 1)) (P (i + 1)) N T) (hd : ∀ e, P xs.length e → N e) : SoP (mLoop b xs e) N C B T := by
  simp only [RsP_eq, SoP_eq, OpP_eq] at *
  exact loopP_0 P h0 hs hd
theorem loopR {b : Int → ε → So ε ρ} {n : Nat} {hi : Int} {e : ε} (hn : hi = (n : Int)) (P : Nat → ε → Prop) (h0 : P 0 e) (hs : ∀ (i : Nat) e, i < n → P i e → SoP (b (i : Int) e) (P (i + 1)) (P (i + 1)) N T) (hd : ∀ e, P n e → N e) : SoP (mLoop b (rng 0 hi) e) N C B T := by
  simp only [RsP_eq, SoP_eq, OpP_eq] at *
  exact loopR_0 hn P h0 hs hd
theorem lcP {pt : α → ε → ε} {tt : ε → Rs ε Bool} {te : ε → Rs ε β} {kill : ε → ε} {xs : List α} {e : ε} {Q : List β → ε → Prop} (p : α → Bool) (f : α → β)
    (h : ∀ x ∈ xs, RsP (tt (pt x e)) fun b e1 => b = p x ∧ if p x = true then RsP (te e1) fun y e2 => y = f x ∧ kill e2 = e else kill e1 = e) (q : Q ((xs.filter p).map f) e) : RsP (lcR pt tt te kill xs e []) Q := by
  simp only [RsP_eq, SoP_eq, OpP_eq] at *
  exact lcP_0 p f h q
theorem lcM {pt : α → ε → ε} {te : ε → Rs ε β} {kill : ε → ε} {xs : List α} {e : ε} {Q : List β → ε → Prop} (f : α → β) (h : ∀ x ∈ xs, RsP (te (pt x e)) fun y e2 => y = f x ∧ kill e2 = e) (q : Q (xs.map f) e) : RsP (lcR pt mYes te kill xs e []) Q := by
  simp only [RsP_eq, SoP_eq, OpP_eq] at *
  exact lcM_0 f h q
theorem lcI {pt : α → ε → ε} {te : ε → Rs ε β} {kill : ε → ε} {xs : List α} {e : ε} {Q : List β → ε → Prop} (P : Nat → List β → ε → Prop) (h0 : P 0 [] e) (h : ∀ i x acc e, xs[i]? = some x → P i acc e → RsP (te (pt x e)) fun y e2 => P (i + 1) (acc ++ [y]) (kill e2)) (q : ∀ acc e, P xs.length acc e → Q acc e) : RsP (lcR pt mYes te kill xs e []) Q := by
  simp only [RsP_eq, SoP_eq, OpP_eq] at *
  exact lcI_0 P h0 h q
/-! ### the law's beginning and end -/
theorem fz_of {K : PySem.W.Frag} {H : Hp} {a : Addr} {ns : List Int} (h : SqL K H a (ns.map V.int)) (hH : ∀ b u, H b = some u → b = a ∧ ∃ o v, u = .frz o v) : Fz K H a (ns.map V.int) := by
  rcases h with (h | ⟨o, h⟩) | h
  · obtain ⟨_, o, v, z⟩ := hH a _ h
    cases z
  · exact .inl ⟨o, h⟩
  · exact .inr fun _ => .inr h
theorem law_go {K : PySem.W.Frag} {H : Hp} {a : Addr} {ns : List Int} {f : List Int → Rs Unit Bool} {E : XK} (hf : Fz K H a (ns.map V.int)) (h : RsP (f ns) fun b _ => b = true) : spD K cx0 (aOne (ir rScr)) (fz rB) f [.ref a] H (fun v _ => v = .bl true) E := by
  refine ⟨H, ns, ⟨.refl, fun _ _ h => h⟩, ⟨_, rfl, a, rfl, hf⟩, ?_⟩
  obtain ⟨b, u, e, rfl⟩ := h.ex
  rw [e]
  exact fun v G' H' H1 i hr => hr.1
end
variable {α : Type}
/-! ## xs[::e], e one or minus one -/
def rStepL (K : PySem.W.Frag) : V → Option Int → Hp → VK → Prop := fun x o H2 Q => ∃ i, o = some i ∧ ∃ a xs, x = .ref a ∧ SqL K H2 a xs ∧
  ((i = 1 ∧ ∀ p, H2 p = none → Q (.ref p) (upd H2 p (.lst xs))) ∨ (i = -1 ∧ ∀ p, H2 p = none → Q (.ref p) (upd H2 p (.lst xs.reverse))))
def tStepL (K : PySem.W.Frag) (te ts : TE) : TE := fun σ H Q => te σ H fun x H1 => tPart ts σ H1 fun o H2 => rStepL K x o H2 Q
theorem pick_one (its : List Value) : slicePick its.toArray none none (some 1) = its.toArray := by
  have h := slicePick_cut its none none
  have e : slicePick its.toArray none none (some 1) = slicePick its.toArray none none none := rfl
  rw [e, h, HT.sIx_none, HT.sIx_none, List.drop_zero, Nat.sub_zero, List.take_length]
theorem pe_stepL {X : Cx} {e st : Expr} {te ts : TE} {p3 pos : Pos} (he : PE X e te) (hst : PE X st ts) : PE X (.Subscript e (.Slice none none (some st) p3) pos) (tStepL X.K te ts) := by
  refine ⟨fun pins s σ H Q I h => ?_⟩
  refine Subscript_ (thn (he.run pins s σ H _ I h) fun v s1 ⟨x, H1, I1, r1, q1⟩ => ?_)
  refine wpAny_Slice (thn (po_none.run pins s1 σ H1 (fun o H2 => o = none ∧ H2 = H1) I1 ⟨rfl, rfl⟩) fun vl s2 ⟨l, H2, I2, pl, el, e2⟩ => ?_)
  subst el e2
  refine thn (po_none.run pins s2 σ H2 (fun o H3 => o = none ∧ H3 = H2) I2 ⟨rfl, rfl⟩) fun vu s3 ⟨u, H3, I3, pu, eu, e3⟩ => ?_
  subst eu e3
  refine thn ((po_some hst).run pins s3 σ H3 _ I3 q1) fun vs s4 ⟨o, H4, I4, ps, i, eo, a, xs, ex, hx, q⟩ => ?_
  subst eo ex
  cases r1
  have I5 : Inv X pins σ H4 { s4 with heap := s4.heap.push { cls := .type "slice", data := .fields #[vl, vu, vs] } } := I4.kept (t' := s4.toks) fun b ob q => Heap.get?_push_of_some _ q
  obtain ⟨its, r, ht, hz⟩ := I5.list hx
  have hlen := r.length
  show wpAny (model X.prog X.w) X.A (subscriptTail e (.Slice none none (some st) p3) (.ref a) (.ref s4.heap.objs.size)) (EP X pins σ Q) X.xe { s4 with heap := s4.heap.push { cls := .type "slice", data := .fields #[vl, vu, vs] } }
  refine tail_any (ops := [.ref a, .ref s4.heap.objs.size]) ht.isList.typeIs (PySem.slot_list_getitem.lookup) ?_ (by with_unfolding_all rfl)
  refine wpAny_getItem_list_slice ht.isList (Heap.IsSliceOf.new _ vl vu vs) pl pu ps (by rcases q with ⟨rfl, _⟩ | ⟨rfl, _⟩ <;> decide) ?_ (by rw [List.size_toArray]; omega)
  rcases q with ⟨rfl, q⟩ | ⟨rfl, q⟩
  · rw [pick_one]
    refine ⟨.ref _, _, I5.laid (t' := s4.toks) (o := .lst xs) (fun b ob q => Heap.get?_push_of_some _ q) (Nat.le_refl _) ?_, rfl, q _ (I5.hok.fresh (Nat.le_refl _))⟩
    exact ⟨hz, _, 0, r, Heap.get?_push_size _ rfl⟩
  · rw [PySem.W.krv_pick]
    refine ⟨.ref _, _, I5.laid (t' := s4.toks) (o := .lst xs.reverse) (fun b ob q => Heap.get?_push_of_some _ q) (Nat.le_refl _) ?_, rfl, q _ (I5.hok.fresh (Nat.le_refl _))⟩
    exact ⟨by rw [List.length_reverse]; exact hz, _, 0, r.reverse, Heap.get?_push_size _ rfl⟩
/-- a list, the step -/
def gStep (xs : List α) (o : Option Int) : Option (List α) := if o = some 1 then some xs else if o = some (-1) then some xs.reverse else none
theorem v_step {K : PySem.W.Frag} {r : Rep α} : VF2 K (rStepL K) (rd (oL r)) (ir ioR) (oL r) gStep := fun G H v w a b c Q s ⟨L, ho, h1, h2, vs, h3, h4⟩ hi hg k => by
  subst h1 h3
  obtain rfl : w = b := hi
  unfold gStep at hg
  split at hg
  · next e =>
    cases hg
    exact ⟨1, e, L, vs, rfl, sql_h h2, .inl ⟨rfl, fun p hp => k p _ G _ (.own s hp) hp (s.no hp) upd_same ⟨_, rfl, h4⟩⟩⟩
  · split at hg
    · next e =>
      cases hg
      exact ⟨-1, e, L, vs, rfl, sql_h h2, .inr ⟨rfl, fun p hp => k p _ G _ (.own s hp) hp (s.no hp) upd_same ⟨_, rfl, h4.rev⟩⟩⟩
    · cases hg
theorem x_step {ε : Type} {M : Mx} {R : ERep ε} {te ts : TE} {r : Rep α} {m : ε → Rs ε (List α)} {n : ε → Rs ε Int} (h : EX M R te (fz (rL r)) m) (k : EX M R ts (fz rI) n) : EX M R (tStepL M.K te ts) (fs (oL r)) (mOp gStep m (mPart n)) :=
  x_opF (t := te) (u := tPart ts) (T := rStepL M.K) v_step Cv.ob h (x_part k)
/-! ## a call of what an expression gives: a def, whatever it is -/
def tCallX (P : Program) (w : World) (K : PySem.W.Frag) (mg : Str → Option Value) (base : Heap) (k : Nat) (tf : TE) (t : TA) : TE := fun σ H Q => tf σ H fun y H1 => ∃ f sp, y = .ref f ∧ Held P w K mg base k f sp ∧ t σ H1 fun vs H2 => sp (vs ++ []) H2 Q E0
theorem pe_callX {X : Cx} {k : Nat} {fe e : Expr} {es : List Expr} {tf : TE} {t : TA} {pos : Pos} (hr : Room k X.A) (hf : PE X fe tf) (ha : PA X (e :: es) t)
    (ht : eval (.Call fe (e :: es) [] pos) X.env = (do callWith pos (← eval fe X.env) [] (backTo pos (starEach (e :: es) X.env)) (backToKw pos (keywordEach [] X.env))) := by rfl)
    (he : starEach (e :: es) X.env = (false, eval e X.env) :: starEach es X.env := by rfl) (hpl : (backTo pos (starEach es X.env)).any (·.1) = false := by rfl) :
    PE X (.Call fe (e :: es) [] pos) (tCallX X.prog X.w X.K X.mg X.base k tf t) := by
  refine ⟨fun pins s σ H Q I h => ?_⟩
  refine Call_ (thn (hf.run pins s σ H _ I h) fun u s1 ⟨y, H1, I1, ry, f, sp, ey, hh, q⟩ => ?_) ht
  subst ey
  obtain rfl : u = Value.ref f := ry
  obtain ⟨fd, ps, F, hk, hb⟩ := hh.ex
  refine PySem.W.callWith_K (h₀ := X.base) I.ok.mod.kin hk (thn (ha.run pos pins s1 σ H1 _ I1 q) fun us s2 ⟨vs, H2, I2, r, q2⟩ => ⟨I2.kIn, ?_⟩) he hpl
  exact run_fn F hr hb .nil (fun _ _ _ _ _ _ _ z => z.elim) I2 r q2
theorem Held.up {P : Program} {w : World} {K : PySem.W.Frag} {mg : Str → Option Value} {base : Heap} {j k : Nat} {f : Addr} {sp : Sp} (h : Held P w K mg base j f sp) (hj : j ≤ k) : Held P w K mg base k f sp := by
  obtain ⟨fd, ps, F, hk, hb⟩ := h.ex
  exact ⟨fd, ps, ⟨F.len, fun A outer s H args us vs Q E hr => F.run A outer s H args us vs Q E (hr.mono hj)⟩, hk, hb⟩
/-- a def as a thing: its mirror -/
def rFn (P : Program) (w : World) (mg : Str → Option Value) (base : Heap) (k : Nat) {α ρ : Type} (ra : IR (List V) α) (rr : RS V ρ) : Rep (α → Rs Unit ρ) := ⟨fun K _ v g => ∃ f, v = .ref f ∧ Held P w K mg base k f (spD K cx0 ra rr g), fun _ h => h⟩
def rFnI (P : Program) (w : World) (mg : Str → Option Value) (base : Heap) (k : Nat) {ι α ρ : Type} (q : ORep ι) (ra : IR (List V) α) (rr : RS V ρ) : Rep (ι → α → Rs ι ρ) := ⟨fun K _ v g => ∃ f, v = .ref f ∧ Held P w K mg base k f (spI K cx0 q ra rr g), fun _ h => h⟩
section
variable {ε ι α ρ : Type} {P : Program} {w : World} {mg : Str → Option Value} {base : Heap} {k : Nat} {K : PySem.W.Frag} {R : ERep ε}
theorem x_fn {f : Addr} {ra : IR (List V) α} {rr : RS V ρ} {g : α → Rs Unit ρ} (h : Held P w K mg base k f (spD K cx0 ra rr g)) : EX ⟨K, E0, cx0⟩ R (tC (.ref f)) (fz (rFn P w mg base k ra rr)) (mC g) := fun F G H σ e i hR Q p => p _ G H H i .refl ⟨⟨f, rfl, h⟩, rfl⟩ hR
theorem x_fnI {f : Addr} {q : ORep ι} {ra : IR (List V) α} {rr : RS V ρ} {g : ι → α → Rs ι ρ} (h : Held P w K mg base k f (spI K cx0 q ra rr g)) : EX ⟨K, E0, cx0⟩ R (tC (.ref f)) (fz (rFnI P w mg base k q ra rr)) (mC g) := fun F G H σ e i hR Q p => p _ G H H i .refl ⟨⟨f, rfl, h⟩, rfl⟩ hR
/-- the def, then the arguments, then the call -/
def mCallX (mf : ε → Rs ε (α → Rs Unit ρ)) (m : ε → Rs ε α) : ε → Rs ε ρ := fun e => (mf e).bind fun g e1 => mCall g m e1
theorem x_callX {tf : TE} {t : TA} {ra : IR (List V) α} {r : Rep ρ} {mf : ε → Rs ε (α → Rs Unit ρ)} {m : ε → Rs ε α} (hf : EX ⟨K, E0, cx0⟩ R tf (fz (rFn P w mg base k ra (fz r))) mf) (h : EX ⟨K, E0, cx0⟩ R t (is ra) m) :
    EX ⟨K, E0, cx0⟩ R (tCallX P w K mg base k tf t) (fz r) (mCallX mf m) := fun F G H σ e i hR Q p =>
  hf F G H σ e i hR _ (p.bind fz_h fun v g e1 G1 H1 i1 s1 R1 r1 p1 => by
    obtain ⟨⟨f, rfl, hh⟩, _⟩ := r1
    exact ⟨f, _, rfl, hh, x_call (M := ⟨K, E0, cx0⟩) h F G1 H1 σ e1 i1 R1 Q p1⟩)
theorem x_callXF {tf : TE} {t : TA} {ra : IR (List V) α} {q : ORep ρ} {mf : ε → Rs ε (α → Rs Unit ρ)} {m : ε → Rs ε α} (hf : EX ⟨K, E0, cx0⟩ R tf (fz (rFn P w mg base k ra (fs q))) mf) (h : EX ⟨K, E0, cx0⟩ R t (is ra) m) :
    EX ⟨K, E0, cx0⟩ R (tCallX P w K mg base k tf t) (fs q) (mCallX mf m) := fun F G H σ e i hR Q p =>
  hf F G H σ e i hR _ (p.bind fz_h fun v g e1 G1 H1 i1 s1 R1 r1 p1 => by
    obtain ⟨⟨f, rfl, hh⟩, _⟩ := r1
    exact ⟨f, _, rfl, hh, x_callF (M := ⟨K, E0, cx0⟩) h F G1 H1 σ e1 i1 R1 Q p1⟩)
def mCallXI (l : Ln ε ι) (mf : ε → Rs ε (ι → α → Rs ι ρ)) (m : ε → Rs ε α) : ε → Rs ε ρ := fun e => (mf e).bind fun g e1 => mCallI l g m e1
theorem x_callXI {n : Nat} {own : Frm → Addr → Prop} {l : Ln ε ι} {q : ORep ι} {tf : TE} {t : TA} {ra : IR (List V) α} {r : Rep ρ} {mf : ε → Rs ε (ι → α → Rs ι ρ)} {m : ε → Rs ε α} (hf : EX ⟨K, E0, cx0⟩ R tf (fz (rFnI P w mg base k q ra (fz r))) mf) (at' : OwAt R n own q l) (ho : OwnQ own) (h : EX ⟨K, E0, cx0⟩ R t (apt ra) m) :
    EX ⟨K, E0, cx0⟩ R (tCallX P w K mg base k tf (tCons (tVar n) t)) (fz r) (mCallXI l mf m) := fun F G H σ e i hR Q p =>
  hf F G H σ e i hR _ (p.bind fz_h fun v g e1 G1 H1 i1 s1 R1 r1 p1 => by
    obtain ⟨⟨f, rfl, hh⟩, _⟩ := r1
    exact ⟨f, _, rfl, hh, x_callI (M := ⟨K, E0, cx0⟩) at' ho h F G1 H1 σ e1 i1 R1 Q p1⟩)
theorem x_callXIF {n : Nat} {own : Frm → Addr → Prop} {l : Ln ε ι} {q : ORep ι} {tf : TE} {t : TA} {ra : IR (List V) α} {qr : ORep ρ} {mf : ε → Rs ε (ι → α → Rs ι ρ)} {m : ε → Rs ε α} (hf : EX ⟨K, E0, cx0⟩ R tf (fz (rFnI P w mg base k q ra (fs qr))) mf) (at' : OwAt R n own q l) (ho : OwnQ own) (h : EX ⟨K, E0, cx0⟩ R t (apt ra) m) :
    EX ⟨K, E0, cx0⟩ R (tCallX P w K mg base k tf (tCons (tVar n) t)) (fs qr) (mCallXI l mf m) := fun F G H σ e i hR Q p =>
  hf F G H σ e i hR _ (p.bind fz_h fun v g e1 G1 H1 i1 s1 R1 r1 p1 => by
    obtain ⟨⟨f, rfl, hh⟩, _⟩ := r1
    exact ⟨f, _, rfl, hh, x_callIF (M := ⟨K, E0, cx0⟩) at' ho h F G1 H1 σ e1 i1 R1 Q p1⟩)
theorem rp_callX {mf : ε → Rs ε (α → Rs Unit ρ)} {m : ε → Rs ε α} {e : ε} {Q : ρ → ε → Prop} : RsP (mCallX mf m e) Q = RsP (mf e) fun g e1 => RsP (mCall g m e1) Q := by unfold mCallX; rw [rp_bind]
theorem rp_callXI {l : Ln ε ι} {mf : ε → Rs ε (ι → α → Rs ι ρ)} {m : ε → Rs ε α} {e : ε} {Q : ρ → ε → Prop} : RsP (mCallXI l mf m e) Q = RsP (mf e) fun g e1 => RsP (mCallI l g m e1) Q := by unfold mCallXI; rw [rp_bind]
end
/-! ## lists of two things, unpacked; the beginning of one of three -/
section
variable {ε α β γ : Type} {K : PySem.W.Frag} {M : Mx} {R : ERep ε}
def gCut32 (p : α × β × γ) (lo hi : Option Int) : Option (α × β) := if lo = none ∧ hi = some 2 then some (p.1, p.2.1) else none
theorem v_sl32 {r : Rep α} {r' : Rep β} {r'' : Rep γ} : VSlF K (rSlL K) (rd (oL3 r r' r'')) (oL2 r r') gCut32 := fun lo hi G H v a b Q s ⟨L, ho, h1, h2, x, y, z, h3, h4, h5, h6⟩ hg k => by
  subst h1 h3
  obtain ⟨⟨rfl, rfl⟩, rfl⟩ := of_ite hg
  exact ⟨L, _, rfl, sql_h h2, fun p hp => k p _ G _ (.own s hp) hp (s.no hp) upd_same ⟨x, y, rfl, h4, h5⟩⟩
theorem n_unl2 {g g' : TG} {r : Rep α} {r' : Rep β} {vs : List Nat} {p : α → ε → ε} {p' : β → ε → ε} (h : TGN M R g r vs p) (h' : TGN M R g' r' vs p') : TGN M R (gUnl M.K 2 (gCons g (gCons g' gNil))) (rL2 r r') vs (p2 p p') := fun F G H σ e v a i hR hr Q k => by
  obtain ⟨L, ho, rfl, hg, x, y, rfl, hx, hy⟩ := hr
  refine ⟨L, _, rfl, sql_of i.gh hg, rfl, x, _, rfl, h F G H σ e x a.1 i hR hx _ fun σ1 w1 R1 => ⟨y, _, rfl, h' F G H σ1 _ y a.2 i R1 hy _ fun σ2 w2 R2 => ⟨rfl, k σ2 (w2.trans w1) R2⟩⟩⟩
end
/-! ## max of a tuple of ints -/
section
variable {prog : Program} {w : World} {A : Around} {E : Value → Shared → Prop} {s : Shared} {l : Addr}
theorem max_tup {its : List Value} {ns : List Int} {Q : Value → Shared → Prop} (hh : A.handled = none) (hl : s.heap.IsTuple l its.toArray) (hi : IntsAre its ns) (hne : 0 < ns.length)
    (h : ∀ h' tk M t', (∀ b o, s.heap.get? b = some o → h'.get? b = some o) → M ∈ ns → (∀ a, a ∈ ns → a ≤ M) → Q (.int M t') { s with heap := h', toks := tk }) : wpAny (model prog w) A (call (.builtin "max") [.ref l]) Q E s := by
  obtain ⟨xs, e⟩ := hi.allInts.items
  have hn : numsOf (intItems xs).toList = ns := by rw [← e]; exact hi.numsOf
  rw [nums_intItems] at hn
  subst hn
  rw [e] at hl
  have hsz : 0 < xs.size := by simpa using hne
  have hlt : l < s.heap.objs.size := by obtain ⟨_, e, _⟩ := hl; exact Heap.lt_size e
  refine call_max_walk (wpAny_pyIter_tuple hl ?_)
  refine ⟨_, [_, l], [_], _, _, _, _, rfl, Walks.tuple (A := A.in1) hh _ l (Nat.ne_of_lt hlt) (intItems xs), ⟨⟨_, Heap.get?_push_size _ rfl, rfl, rfl⟩, hl.push _⟩, fun c hc => ?_, by simpa [intItems] using hsz, CmpOf.ints_gt (numAt xs) (fun _ _ => intItems_at), fun v h' tk hv hk => ?_⟩
  · show c < (s.heap.push _).objs.size
    rw [Heap.size_push]
    rcases List.mem_cons.mp hc with rfl | hc
    · exact Nat.lt_succ_self _
    · rcases List.mem_cons.mp hc with rfl | hc
      · exact Nat.lt_succ_of_lt hlt
      · cases hc
  · have hv : (intItems xs)[argBest (fun i j => decide (numAt xs i > numAt xs j)) (xs.size - 1)]? = some v := by simpa [intItems] using hv
    obtain ⟨t, rfl⟩ := intItems_at hv
    obtain ⟨h1, h2⟩ := argBest_gt (numAt xs) (xs.size - 1)
    refine h h' tk _ t (fun b o eb => hk b o (fun hm => ?_) (Heap.get?_push_of_some _ eb)) ?_ fun a ha => ?_
    · rcases List.mem_cons.mp hm with e1 | hm
      · exact absurd (e1 ▸ Heap.lt_size eb) (Nat.lt_irrefl _)
      · cases hm
    · rw [numAt_eq]; exact PySem.getD_mem (by rw [List.length_map, Array.length_toList]; omega)
    · obtain ⟨j, hj, rfl⟩ := mem_getD ha
      rw [List.length_map, Array.length_toList] at hj
      rw [← numAt_eq]; exact h2 j (by omega)
end
def rMaxT (K : PySem.W.Frag) : List V → Hp → VK → Prop := fun vs H Q => ∃ (a : Addr) (ns : List Int), vs = [V.ref a] ∧ SqT K H a (ns.map V.int) ∧ 0 < ns.length ∧ ∀ m, m ∈ ns → (∀ y, y ∈ ns → y ≤ m) → Q (.int m) H
theorem cr_maxT {X : Cx} (hc : X.calm = true) : CallR X (.builtin "max") (rMaxT X.K) := by
  intro pins s σ H vs us Q I r h
  obtain ⟨a, ns, rfl, hs, hne, q⟩ := h
  obtain ⟨its, rv, hl, _⟩ := I.tuple hs
  rw [Vals.ref1 r]
  exact max_tup (I.ok.hd hc) hl rv.ints hne fun h' tk m t' hk h1 h2 => ⟨.int _, H, I.kept hk, ⟨_, rfl⟩, q m h1 h2⟩
section
variable {K : PySem.W.Frag} {α β γ : Type}
theorem v_maxT : VR K (rMaxT K) (aOne (rd (oT rI))) rI gMax := fun G H v a b Q s ⟨x, h0, L, ho, h1, h2, vs, h3, h4⟩ hg k => by
  subst h0 h1 h3
  obtain ⟨hz, rfl⟩ := of_ite hg
  obtain rfl := ints_of h4
  have hne : a ≠ [] := by intro z; subst z; simp at hz
  refine ⟨L, a, rfl, sqt_h h2, hz, fun m hm hl => ?_⟩
  rw [show m = maxL a from Int.le_antisymm (le_maxL hm) (hl _ (maxL_mem hne))]
  exact k _ G H (.refl s) rfl
/-! ## min, max of two -/
def rMin2 : List V → Hp → VK → Prop := fun xs H Q => ∃ i j, xs = [.int i, .int j] ∧ Q (.int (if j < i then j else i)) H
def rMax2' : List V → Hp → VK → Prop := fun xs H Q => ∃ i j, xs = [.int i, .int j] ∧ Q (.int (if j > i then j else i)) H
theorem cr_min2 {X : Cx} (hc : X.calm = true) : CallR X (.builtin "min") rMin2 := call_min2 hc
theorem cr_max2 {X : Cx} (hc : X.calm = true) : CallR X (.builtin "max") rMax2' := call_max2 hc
def gMin2 (p : Int × Int) : Option Int := some (min p.1 p.2)
def gMax2 (p : Int × Int) : Option Int := some (max p.1 p.2)
theorem v_min2 : VR K rMin2 (aCons (ir rI) (aOne (ir rI))) rI gMin2 := fun G H v a b Q s ⟨x, ws, h0, h1, y, h2, h3⟩ hg k => by
  cases hg; subst h0 h2
  refine ⟨a.1, a.2, by rw [show x = .int a.1 from h1, show y = .int a.2 from h3], ?_⟩
  rw [show (if a.2 < a.1 then a.2 else a.1) = min a.1 a.2 by split <;> omega]
  exact k _ G H (.refl s) rfl
theorem v_max2 : VR K rMax2' (aCons (ir rI) (aOne (ir rI))) rI gMax2 := fun G H v a b Q s ⟨x, ws, h0, h1, y, h2, h3⟩ hg k => by
  cases hg; subst h0 h2
  refine ⟨a.1, a.2, by rw [show x = .int a.1 from h1, show y = .int a.2 from h3], ?_⟩
  rw [show (if a.2 > a.1 then a.2 else a.1) = max a.1 a.2 by split <;> omega]
  exact k _ G H (.refl s) rfl
/-! ## xs.remove(k) -/
def gRem (xs : List Int) (k : Int) : Option (Unit × List Int) := if k ∈ xs then some ((), xs.erase k) else none
theorem erase_at : ∀ {xs : List Int} {k : Int}, k ∈ xs → ∃ j, xs[j]? = some k ∧ (∀ m, m < j → xs[m]? ≠ some k) ∧ xs.eraseIdx j = xs.erase k
  | x :: xs, k, h => by
    by_cases e : x = k
    · subst e
      exact ⟨0, rfl, fun m hm => absurd hm (Nat.not_lt_zero _), by simp⟩
    · obtain ⟨j, h1, h2, h3⟩ := erase_at (xs := xs) (k := k) (by rcases List.mem_cons.mp h with z | z; exact absurd z.symm e; exact z)
      refine ⟨j + 1, by simpa using h1, fun m hm => ?_, ?_⟩
      · cases m with
        | zero => simpa using e
        | succ m => simpa using h2 m (by omega)
      · rw [List.eraseIdx_cons_succ, h3, List.erase_cons_tail (by simpa using e)]
theorem v_rem : VM K rRemI (oL rI) (gOne rI) rN gRem := fun G H L ho st vs a b st' Q s h1 h2 ⟨ws, h3, h4⟩ ⟨v, h5, h6⟩ hg k => by
  subst h3 h5
  obtain ⟨hz, e⟩ := of_ite hg
  cases e
  obtain rfl := ints_of h4
  rw [show v = .int a from h6]
  obtain ⟨j, j1, j2, j3⟩ := erase_at hz
  exact ⟨L, st, a, j, rfl, rfl, h1, j1, j2, k _ _ ⟨_, rfl, by rw [j3]; exact .ofMap fun _ _ => rfl⟩ rfl⟩
/-! ## isinstance, where the kind is known -/
/-- a value's own kind -/
def Kd (i : IR V α) (t : String) : Prop := ∀ K G H v a, Sub G H → i K G H v a → TyX K H v (.type t)
theorem kd_I : Kd (ir rI) "int" := fun K G H v a s h => by rw [show v = .int a from h]; exact .base (.int a)
theorem kd_B : Kd (ir rB) "bool" := fun K G H v a s h => by rw [show v = .bl a from h]; exact .base (.bl a)
theorem kd_S : Kd (ir rS) "str" := fun K G H v a s h => by rw [show v = .str a from h]; exact .base (.str a)
theorem kd_Lr {r : Rep α} : Kd (rd (oL r)) "list" := fun K G H v a s ⟨L, ho, h1, h2, vs, h3, h4⟩ => by subst h1 h3; exact .base (.lst h2)
theorem kd_Tr {r : Rep α} : Kd (rd (oT r)) "tuple" := fun K G H v a s ⟨L, ho, h1, h2, vs, h3, h4⟩ => by subst h1 h3; exact .base (.tup h2)
theorem kd_z {q : ORep α} {t : String} (h : Kd (rd q) t) : Kd (ir (rz q)) t := fun K G H v a s x => h K G H v a s (Cv.ob _ _ _ _ _ s x)
theorem kd_N : Kd (ir rN) "NoneType" := fun K G H v a s h => by rw [show v = .non from h]; exact .base .non
def rTy (T : String) : Rep Unit := ⟨fun _ _ v _ => v = .ty T, fun _ h => h⟩
def gIsi (b : Bool) (_ : α × Unit) : Option Bool := some b
theorem v_isi {i : IR V α} {t T : String} {b : Bool} (kd : Kd i t) (hk : ∀ K, PySem.W.kitOne K (.type t) (.type T) = some b) : VR K (rIsi K) (aCons i (aOne (ir (rTy T)))) rB (gIsi b) := fun G H v a c Q s ⟨x, ws, h0, h1, y, h2, h3⟩ hg k => by
  cases hg; subst h0 h2
  rw [show y = .ty T from h3]
  exact ⟨x, _, _, _, b, rfl, .ty T, kd _ _ _ _ _ s h1, hk K, k _ G H (.refl s) rfl⟩
/-- None or a thing: never of a kind that neither is -/
theorem v_isiO {r : Rep α} {t T : String} (kd : Kd (ir r) t) (hk : ∀ K, PySem.W.kitOne K (.type t) (.type T) = some false) (hn : ∀ K, PySem.W.kitOne K (.type "NoneType") (.type T) = some false) : VR K (rIsi K) (aCons (ir (rO r)) (aOne (ir (rTy T)))) rB (gIsi false) := fun G H v a c Q s ⟨x, ws, h0, h1, y, h2, h3⟩ hg k => by
  cases hg; subst h0 h2
  rw [show y = .ty T from h3]
  cases ha : a.1 with
  | none =>
    rw [ha] at h1
    rw [show x = .non from h1]
    exact ⟨_, _, .type "NoneType", _, false, rfl, .ty T, .base .non, hn K, k _ G H (.refl s) rfl⟩
  | some z =>
    rw [ha] at h1
    exact ⟨x, _, .type t, _, false, rfl, .ty T, kd _ _ _ _ _ s h1.2, hk K, k _ G H (.refl s) rfl⟩
end
section
variable {K : PySem.W.Frag} {α β γ ε : Type} {M : Mx} {R : ERep ε}
/-! ## texts -/
def rSplit : V → List V → Hp → VK → Prop := fun x xs H Q => ∃ a b, x = .str a ∧ xs = [.str b] ∧ (b.length == 0) = false ∧ a.length + 2 ≤ sizeLine ∧ rNewStrs (Txt.split a b) H Q
def gSplit (a b : Str) : Option (List Str) := if (b.length == 0) = false ∧ a.length + 2 ≤ 16777216 then some (Txt.split a b) else none
theorem x_split {to te : TE} {m n : ε → Rs ε Str} (h : EX M R to (fz rS) m) (k : EX M R te (fz rS) n) : EX M R (tM1 rSplit to te) (fs (oL rS)) (mOp gSplit m n) := fun F G H σ e i hR Q p =>
  h F G H σ e i hR _ (p.bind fz_h fun v a e1 G1 H1 i1 s1 R1 r1 p1 => ⟨⟨a, r1.1⟩, k F G1 H1 σ e1 i1 R1 _ (p1.bind fz_h fun w b e2 G2 H2 i2 s2 R2 r2 p2 => by
    obtain ⟨c, hc, p3⟩ := of_some p2
    obtain ⟨hz, rfl⟩ := of_ite hc
    refine ⟨a, b, r1.1, by rw [show w = .str b from r2.1], hz.1, by rw [sizeLine_eq]; exact hz.2, fun p hp => ?_⟩
    exact (Post.finF i2 R2 p3) p _ G2 _ (.own i2.gh hp) hp (i2.gh.no hp) upd_same ⟨_, rfl, .ofMap fun _ _ => rfl⟩)⟩)
def signs (z : Str) : List Str := z.cps.toList.map fun c => ⟨#[c]⟩
def mSigns (m : ε → Rs ε Str) : ε → Rs ε (List Str) := fun e => (m e).bind fun z e1 => .ok (signs z) e1
theorem x_iStr {t : TE} {m : ε → Rs ε Str} (h : EX M R t (fz rS) m) : EX M R (iStr t) (walkS rS) (mSigns m) := fun F G H σ e i hR Q p =>
  h F G H σ e i hR _ (p.bind fz_h fun v z e1 G1 H1 i1 s1 R1 r1 p1 => by
    refine ⟨z, r1.1, p1 _ G1 H1 H1 i1 .refl ⟨fun k G2 H2 i2 s2 => ?_, rfl⟩ R1⟩
    have hl : (signs z).length = z.cps.size := by simp [signs]
    refine ⟨fun hk => by rw [hl] at hk; exact hk, fun x hx => ?_⟩
    have hk : k < z.cps.size := by rw [← hl]; exact (List.getElem?_eq_some_iff.mp hx).1
    refine ⟨hk, fun v' H'' hy => ?_⟩
    obtain ⟨rfl, c, hc, rfl⟩ := hy
    refine ⟨G2, .refl i2.gh, ?_⟩
    unfold signs at hx
    rw [List.getElem?_map, Array.getElem?_toList, hc] at hx
    cases hx
    rfl)
def rIntS : List V → Hp → VK → Prop := fun xs H Q => ∃ a n, xs = [.str a] ∧ PySem.intText? a = some n ∧ a.length ≤ 640 ∧ Q (.int n) H
theorem cr_intS {X : Cx} : CallR X (.type "int") rIntS := call_int_str
def gIntS (a : Str) : Option Int := if a.length ≤ 640 then PySem.intText? a else none
theorem v_intS : VR K rIntS (aOne (ir rS)) rI gIntS := fun G H v a b Q s ⟨x, h0, h1⟩ hg k => by
  subst h0
  unfold gIntS at hg
  split at hg
  · next hz => exact ⟨a, b, by rw [show x = .str a from h1], hg, hz, k _ G H (.refl s) rfl⟩
  · cases hg
theorem rp_signs {m : ε → Rs ε Str} {e : ε} {Q : List Str → ε → Prop} : RsP (mSigns m e) Q = RsP (m e) fun z e1 => Q (signs z) e1 := by unfold mSigns; rw [rp_bind]; simp only [rp_ok]
/-! ## None or a thing, == -/
def NnE (E : En α) : Prop := ∀ a, PyData.eqv .none (E.enc a) = false ∧ PyData.eqv (E.enc a) .none = false
theorem nne_I : NnE enI := fun a => ⟨by simp [enI, PyData.eqv], by simp [enI, PyData.eqv]⟩
theorem nne_T {E : En α} : NnE (enT E) := fun a => ⟨by simp [enT, PyData.eqv], by simp [enT, PyData.eqv]⟩
theorem nne_L {E : En α} : NnE (enL E) := fun a => ⟨by simp [enL, PyData.eqv], by simp [enL, PyData.eqv]⟩
theorem eq_O [DecidableEq α] {E : En α} (nn : NnE E) (h : EnEq E) : EnEq (enO E) := fun a b => by
  cases a with
  | none => cases b with
    | none => simp [enO, PyData.eqv]
    | some y => simp only [enO, (nn y).1]; simp
  | some x => cases b with
    | none => simp only [enO, (nn x).2]; simp
    | some y => simp only [enO, h x y]; simp
/-! ## a statement that is never reached -/
def mNever {ρ : Type} : ε → So ε ρ := fun _ => .bad
theorem s_never {ρ : Type} {rr : RS V ρ} : SX M R rr tNever mNever := fun F G H σ e i hR D p => p
/-! ## sorted(xs, key=by_size) -/
theorem refs_of {G : Hp} {vs : List V} {fs : List (List Int)} (h : A2 ((rT rI).rel K G) vs fs) : ∃ bs : List (Addr × List Int), vs = bs.map (fun b => .ref b.1) ∧ fs = bs.map (·.2) ∧ ∀ b ∈ bs, G b.1 = some (.tup (b.2.map V.int)) := by
  induction h with
  | nil => exact ⟨[], rfl, rfl, fun b hb => absurd hb List.not_mem_nil⟩
  | @cons v f vs fs hh _ ih =>
    obtain ⟨bs, e1, e2, e3⟩ := ih
    obtain ⟨L, ho, rfl, h2, ws, rfl, h4⟩ := hh
    obtain rfl := ints_of h4
    refine ⟨(L, f) :: bs, by rw [e1]; rfl, by rw [e2]; rfl, fun b hb => ?_⟩
    rcases List.mem_cons.mp hb with rfl | hb
    · exact h2
    · exact e3 b hb
def srtF (fs : List (List Int)) : List (List Int) := fs.mergeSort faceLe
def gSortF (fs : List (List Int)) : Option (List (List Int)) := if fs.length ≤ 1000000 ∧ (∀ f ∈ fs, f.length ≤ 1000000) then some (srtF fs) else none
theorem x_sortSz {f : Addr} {t : TA} {m : ε → Rs ε (List (List Int))} (h : EX M R t (is (aOne (rd (oL (rT rI))))) m) : EX M R (tCKw (rSortSz M.K f) t (tCons (tC (.ref f)) tNil)) (fs (oL (rT rI))) (mUn gSortF m) :=
  x_unF (t := t) (T := fun (vs : List V) (H : Hp) (Q : VK) => rSortSz M.K f vs [.ref f] H Q) (fun G H v a b Q s ⟨x, h0, L, ho, h1, h2, vs, h3, h4⟩ hg k => by
    subst h0 h1 h3
    obtain ⟨hz, rfl⟩ := of_ite hg
    obtain ⟨bs, rfl, rfl, hb⟩ := refs_of h4
    rw [List.length_map] at hz
    refine ⟨L, bs, rfl, rfl, sql_h h2, fun b hb' => sqt_of s (hb b hb'), hz.1, fun b hb' => hz.2 _ (List.mem_map.mpr ⟨b, hb', rfl⟩), fun p hp => k p _ G _ (.own s hp) hp (s.no hp) upd_same ⟨_, rfl, ?_⟩⟩
    have e : srtF (bs.map (·.2)) = (bs.mergeSort fun p q => faceLe p.2 q.2).map (·.2) := (PySem.W.sort_maps (r := fun p q : Addr × List Int => faceLe p.2 q.2) (s := faceLe) (·.2) fun _ _ _ _ => rfl).symm
    rw [e]
    have : ∀ cs : List (Addr × List Int), (∀ c ∈ cs, c ∈ bs) → A2 ((rT rI).rel M.K G) (cs.map fun b => V.ref b.1) (cs.map (·.2)) := fun cs => by
      induction cs with
      | nil => intro _; exact .nil
      | cons c cs ih => intro hc; exact .cons ⟨c.1, _, rfl, hb c (hc c List.mem_cons_self), _, rfl, .ofMap fun _ _ => rfl⟩ (ih fun x hx => hc x (List.mem_cons_of_mem _ hx))
    exact this _ fun c hc => List.mem_mergeSort.mp hc) h
/-! ## what is there, of None or a thing -/
def mUnw (m : ε → Rs ε (Option α)) : ε → Rs ε α := fun e => (m e).bind fun o e1 => .of o e1
theorem x_unw {t : TE} {r : Rep α} {m : ε → Rs ε (Option α)} (h : EX M R t (fz (rO r)) m) : EX M R t (fz r) (mUnw m) := fun F G H σ e i hR Q p =>
  h F G H σ e i hR _ (p.bind fz_h fun v o e1 G1 H1 i1 s1 R1 r1 p1 => by
    cases o with
    | none => exact p1.elim
    | some a => exact p1 v G1 H1 H1 i1 .refl ⟨r1.1.2, rfl⟩ R1)
theorem rp_unw {m : ε → Rs ε (Option α)} {e : ε} {Q : α → ε → Prop} : RsP (mUnw m e) Q = RsP (m e) fun o e1 => OpP o fun a => Q a e1 := by unfold mUnw; rw [rp_bind]; simp only [rp_of]
end
/-! # A name that is another name's list for a while -/
variable {ε α β ρ : Type} {M : Mx} {R : ERep ε} {rr : RS V ρ}
/-- the rest of the block goes into both branches -/
theorem s_ifK {c : TT} {t s : TS} {mc : ε → Rs ε Bool} {m n : ε → So ε ρ} (hc : EX M R c (fz bR) mc) (h : SX M R rr (tSeq t s) m) (k : SX M R rr s n) : SX M R rr (tSeq (tIfS c t tNext) s) (mIfS mc m n) :=
  s_if (t := tSeq t s) (u := tSeq tNext s) hc h k
theorem s_ifKC {c : TT} {t s : TS} {mc : ε → Rs ε Bool} {m n : ε → So ε ρ} (hc : EX M R c (fz bR) mc) (h : SX M R rr (tSeq t s) m) (k : SX M R rr s n) : SX M R rr (tCut (tIfS c t tNext) s) (mIfS mc m n) :=
  fun F G H σ e i hR D p => ⟨fun σ' H' => s D σ' H', s_ifK hc h k F G H σ e i hR D p, fun _ _ h => h⟩
/-- a name whose thing may be anything -/
structure Fg (R : ERep ε) (n : Nat) (l : Ln ε α) : Prop where
  ln : ∀ {K F G H σ e}, R.rel K F G H σ e → n < σ.length
  st : ∀ {K F G H σ e} (v : V), R.rel K F G H σ e → R.rel K F G H (σ.set n (some v)) (l.put none e)
section
variable {r : Rep α} {r' : Rep β} {q' : ORep β} {own : Frm → Addr → Prop} [op : OwnP own] {n : Nat} {l : Ln ε α}
theorem Fg.z : Fg (eFr r R) 0 Ln.z := by
  refine ⟨?_, ?_⟩
  · rintro K F G H σ e ⟨o, σ', rfl, h2, h3⟩
    simp
  · rintro K F G H σ e v ⟨o, σ', rfl, h2, h3⟩
    exact ⟨some v, σ', rfl, fun x hx => (nomatch hx), h3⟩
theorem Fg.sF (h : Fg R n l) : Fg (eFr r' R) (n + 1) (Ln.s l) := by
  refine ⟨?_, ?_⟩
  · rintro K F G H σ e ⟨o, σ', rfl, h2, h3⟩
    simpa using h.ln h3
  · rintro K F G H σ e v ⟨o, σ', rfl, h2, h3⟩
    exact ⟨o, _, rfl, h2, h.st v h3⟩
theorem Fg.sB (h : Fg R n l) : Fg (eBo q' R) (n + 1) (Ln.s l) := by
  refine ⟨?_, ?_⟩
  · rintro K F G H σ e ⟨o, σ', rfl, h2, h3⟩
    simpa using h.ln h3
  · rintro K F G H σ e v ⟨o, σ', rfl, h2, h3⟩
    exact ⟨o, _, rfl, h2, h.st v h3⟩
theorem Fg.sP (h : Fg R n l) : Fg (ePr q' R) (n + 1) (Ln.s l) := by
  refine ⟨?_, ?_⟩
  · rintro K F G H σ e ⟨o, σ', rfl, h2, h3⟩
    simpa using h.ln h3
  · rintro K F G H σ e v ⟨o, σ', rfl, h2, h3⟩
    exact ⟨o, _, rfl, h2, h.st v h3⟩
theorem Fg.sO (h : Fg R n l) : Fg (eOwP own q' R) (n + 1) (Ln.s l) := by
  refine ⟨?_, ?_⟩
  · rintro K F G H σ e ⟨o, σ', rfl, ⟨h1, h2⟩ | ⟨x, L, ho, a1, a2, a3, a4, a5, a6, a7⟩⟩
    · simpa using h.ln h2
    · simpa using h.ln a7
  · rintro K F G H σ e v ⟨o, σ', rfl, ⟨h1, h2⟩ | ⟨x, L, ho, a1, a2, a3, a4, a5, a6, a7⟩⟩
    · exact ⟨o, _, rfl, .inl ⟨h1, h.st v h2⟩⟩
    · exact ⟨o, _, rfl, .inr ⟨x, L, ho, a1, a2, a3, a4, a5, a6, h.st v a7⟩⟩
end
/-- x = y, then what is done with x is done with y -/
def mAl (l : Ln ε α) (q : Ln ε β) (m : ε → So ε ρ) : ε → So ε ρ := fun e => match q.get e with
  | some _ => m (l.put none e)
  | none => .bad
theorem s_al {i j : Nat} {s s' : TS} {q : ORep β} {own : Frm → Addr → Prop} {l : Ln ε α} {k : Ln ε β} {m : ε → So ε ρ} (hi : Fg R i l) (hj : OwAt R j own q k) (hij : i ≠ j) (hs : ∀ D σ H, σ[i]? = σ[j]? → s' D σ H → s D σ H) (h : SX M R rr s' m) : SX M R rr (tSeq (tAsg (tVar j) (gName i)) s) (mAl l k m) := fun F G H σ e iv hR D p => by
  unfold mAl at p
  cases hk : k.get e with
  | none => rw [hk] at p; exact p.elim
  | some a =>
    rw [hk] at p
    obtain ⟨L, ho, h1, _⟩ := hj.rd hR hk
    refine ⟨.ref L, h1, ?_⟩
    refine hs D _ H ?_ (h F G H _ _ iv (hi.st _ hR) D p)
    rw [List.getElem?_set_self (hi.ln hR), List.getElem?_set_ne hij, h1]
theorem sp_al {l : Ln ε α} {q : Ln ε β} {m : ε → So ε ρ} {e : ε} {N C B : ε → Prop} {T : ρ → ε → Prop} : SoP (mAl l q m e) N C B T = OpP (q.get e) fun _ => SoP (m (l.put none e)) N C B T := by
  unfold mAl
  cases q.get e with
  | none =>
    rw [SoP_eq, OpP_eq]
    rfl
  | some a => rw [op_some]
/-- a while loop, by how many turns are left at most -/
theorem whileP {c : ε → Rs ε Bool} {b : ε → So ε ρ} {N C B : ε → Prop} {T : ρ → ε → Prop} (P : Nat → ε → Prop)
    (h : ∀ n e, P n e → RsP (c e) fun v e1 => if v = true then ∃ m, n = m + 1 ∧ SoP (b e1) (P m) (P m) N T else N e1) : ∀ (fuel n : Nat) (e : ε), n < fuel → P n e → SoP (mWhileN c b fuel e) N C B T
  | 0, n, e, hn, _ => absurd hn (Nat.not_lt_zero n)
  | fuel + 1, n, e, hn, p => by
    unfold mWhileN
    rw [sp_so]
    refine (h n e p).imp fun v e1 hv => ?_
    by_cases hb : v = true
    · rw [if_pos hb] at hv ⊢
      obtain ⟨m, rfl, hm⟩ := hv
      revert hm
      cases b e1 with
      | nx e2 => exact fun hm => whileP P h fuel m e2 (by omega) (by rw [sp_nx] at hm; exact hm)
      | ct e2 => exact fun hm => whileP P h fuel m e2 (by omega) (by rw [sp_ct] at hm; exact hm)
      | bk e2 => exact fun hm => by rw [sp_bk] at hm; rw [sp_nx]; exact hm
      | rt a e2 => exact fun hm => by rw [sp_rt] at hm; rw [sp_rt]; exact hm
      | ex c e2 => exact fun hm => by rw [SoP_eq] at hm; exact hm.elim
      | bad => exact fun hm => by rw [SoP_eq] at hm; exact hm.elim
    · rw [if_neg hb] at hv ⊢
      rw [sp_nx]
      exact hv
/-! # Sets of tuples, stores to two items at once, numbers of the module -/
/-- a number of the module -/
theorem pe_gI {X : Cx} {x : Str} {i : Int} {pos : Pos} (hg : Gl X x) (hm : ∃ t, X.mg x = some (.int i t)) (hd : (x == ("__debug__" : Str)) = false := by decide) : PE X (.Name x pos) (tC (.int i)) := by
  obtain ⟨t, hm⟩ := hm
  exact pe_glob hg hm ⟨t, rfl⟩ hd
section
variable {K : PySem.W.Frag} {α β γ ε ρ : Type} {w : World} {P : Program}
/-! ## sets of tuples -/
def rSetT (P : Program) (w : World) : Rep (List (List Int)) := ⟨fun K G v fs => ∃ a L, v = .ref a ∧ G a = some (SetTO P w a L) ∧ (∀ p ∈ L, G p.1 = some (.tup (p.2.map V.int))) ∧ ∀ f, f ∈ fs ↔ f ∈ L.map Prod.snd,
  fun s ⟨a, L, h1, h2, h3, h4⟩ => ⟨a, L, h1, s _ _ h2, fun p hp => s _ _ (h3 p hp), h4⟩⟩
theorem tups_of {G : Hp} {vs : List V} {fs : List (List Int)} (h : A2 ((rT rI).rel K G) vs fs) : ∃ ks : List (Addr × List Int), vs = ks.map (fun p => V.ref p.1) ∧ (∀ p ∈ ks, G p.1 = some (.tup (p.2.map V.int))) ∧ ks.map (·.2) = fs := by
  induction h with
  | nil => exact ⟨[], rfl, by simp, rfl⟩
  | @cons v f vs fs h _ ih =>
    obtain ⟨ks, rfl, h1, rfl⟩ := ih
    obtain ⟨L, ho, rfl, hg, us, rfl, hu⟩ := h
    obtain rfl := ints_of hu
    refine ⟨(L, f) :: ks, rfl, fun p hp => ?_, rfl⟩
    rcases List.mem_cons.mp hp with rfl | hp
    · exact hg
    · exact h1 p hp
def gSetF (fs : List (List Int)) : Option (List (List Int)) := if fs.length < 64 then some fs else none
theorem v_setLT : VR K (rSetOfT K P w) (aOne (rd (oL (rT rI)))) (rSetT P w) gSetF := fun G H v a b Q s ⟨x, h0, L, ho, h1, h2, vs, h3, h4⟩ hg k => by
  subst h0 h1 h3
  obtain ⟨hz, rfl⟩ := of_ite hg
  obtain ⟨ks, rfl, k1, rfl⟩ := tups_of h4
  rw [List.length_map] at hz
  refine ⟨L, ks, rfl, sql_h h2, fun p hp => sqt_of s (k1 p hp), hz, fun c L' hc m1 m2 => k (.ref c) _ _ (.new s hc) ⟨c, L', rfl, upd_same, fun p hp => sub_upd (s.no hc) _ _ (k1 p (m1 p hp)), fun f => ?_⟩⟩
  constructor
  · intro hf
    obtain ⟨p, hp, rfl⟩ := List.mem_map.mp hf
    exact m2 p hp
  · intro hf
    obtain ⟨p, hp, rfl⟩ := List.mem_map.mp hf
    exact List.mem_map.mpr ⟨p, m1 p hp, rfl⟩
/-- rising faces, each once -/
def insF (x : List Int) : List (List Int) → List (List Int)
  | [] => [x]
  | y :: ys => if x < y then x :: y :: ys else if x = y then y :: ys else y :: insF x ys
def ssetF (fs : List (List Int)) : List (List Int) := fs.foldr insF []
theorem insF_mem {x z : List Int} : ∀ {ys : List (List Int)}, z ∈ insF x ys ↔ z = x ∨ z ∈ ys
  | [] => by simp [insF]
  | y :: ys => by
    unfold insF
    by_cases h : x < y
    · rw [if_pos h]; simp
    · rw [if_neg h]
      by_cases e : x = y
      · rw [if_pos e]; subst e; simp
      · rw [if_neg e, List.mem_cons, insF_mem, List.mem_cons]
        constructor
        · rintro (h | h | h)
          · exact .inr (.inl h)
          · exact .inl h
          · exact .inr (.inr h)
        · rintro (h | h | h)
          · exact .inr (.inl h)
          · exact .inl h
          · exact .inr (.inr h)
theorem ltF_trans {x y z : List Int} (h1 : x < y) (h2 : y < z) : x < z := List.lt_trans h1 h2
theorem ltF_irr {x : List Int} : ¬ x < x := List.lt_irrefl x
theorem ltF_of {x y : List Int} (h : ¬ x < y) (e : x ≠ y) : y < x := by
  rcases Std.lt_trichotomy x y with z | z | z
  · exact absurd z h
  · exact absurd z e
  · exact z
theorem insF_pw {x : List Int} : ∀ {ys : List (List Int)}, ys.Pairwise (· < ·) → (insF x ys).Pairwise (· < ·)
  | [], _ => by simp [insF]
  | y :: ys, h => by
    obtain ⟨h1, h2⟩ := List.pairwise_cons.mp h
    unfold insF
    by_cases hl : x < y
    · rw [if_pos hl]
      exact List.pairwise_cons.mpr ⟨fun z hz => by
        rcases List.mem_cons.mp hz with rfl | hz
        · exact hl
        · exact ltF_trans hl (h1 z hz), h⟩
    · rw [if_neg hl]
      by_cases e : x = y
      · rw [if_pos e]; exact h
      · rw [if_neg e]
        refine List.pairwise_cons.mpr ⟨fun z hz => ?_, insF_pw h2⟩
        rcases insF_mem.mp hz with rfl | hz
        · exact ltF_of hl e
        · exact h1 z hz
theorem ssetF_mem {z : List Int} : ∀ {fs : List (List Int)}, z ∈ ssetF fs ↔ z ∈ fs
  | [] => by simp [ssetF]
  | f :: fs => by
    show z ∈ insF f (ssetF fs) ↔ _
    rw [insF_mem, ssetF_mem, List.mem_cons]
theorem ssetF_pw : ∀ fs : List (List Int), (ssetF fs).Pairwise (· < ·)
  | [] => by simp [ssetF]
  | f :: fs => insF_pw (ssetF_pw fs)
theorem riseF_eq : ∀ {xs ys : List (List Int)}, xs.Pairwise (· < ·) → ys.Pairwise (· < ·) → (∀ z, z ∈ xs ↔ z ∈ ys) → xs = ys
  | [], [], _, _, _ => rfl
  | [], y :: ys, _, _, h => absurd ((h y).mpr List.mem_cons_self) List.not_mem_nil
  | x :: xs, [], _, _, h => absurd ((h x).mp List.mem_cons_self) List.not_mem_nil
  | x :: xs, y :: ys, hx, hy, h => by
    obtain ⟨hx1, hx2⟩ := List.pairwise_cons.mp hx
    obtain ⟨hy1, hy2⟩ := List.pairwise_cons.mp hy
    have e : x = y := by
      rcases List.mem_cons.mp ((h x).mp List.mem_cons_self) with e | m
      · exact e
      · rcases List.mem_cons.mp ((h y).mpr List.mem_cons_self) with e | m'
        · exact e.symm
        · exact absurd (ltF_trans (hy1 x m) (hx1 y m')) ltF_irr
    subst e
    rw [riseF_eq hx2 hy2 fun z => ⟨fun m => ?_, fun m => ?_⟩]
    · rcases List.mem_cons.mp ((h z).mp (List.mem_cons_of_mem _ m)) with e | m'
      · exact absurd (e ▸ hx1 z m) ltF_irr
      · exact m'
    · rcases List.mem_cons.mp ((h z).mpr (List.mem_cons_of_mem _ m)) with e | m'
      · exact absurd (e ▸ hy1 z m) ltF_irr
      · exact m'
def gSsetF (fs : List (List Int)) : Option (List (List Int)) := some (ssetF fs)
theorem v_sortSetT : VF K (rSortSetT K P w) (aOne (ir (rSetT P w))) (oL (rT rI)) gSsetF := fun G H v a b Q s ⟨x, h0, c, L, h1, h2, h3, h4⟩ hg k => by
  cases hg
  subst h0 h1
  refine ⟨c, L, rfl, s _ _ h2, fun p hp => sqt_of s (h3 p hp), fun L' p pm pw hf hp => ?_⟩
  have e : L'.map (·.2) = ssetF a := riseF_eq (List.pairwise_map.mpr pw) (ssetF_pw a) fun z => by
    rw [ssetF_mem, h4]
    exact (pm.map (·.2)).mem_iff
  refine k p _ G _ (.own s hp) hp (s.no hp) upd_same ⟨_, rfl, ?_⟩
  rw [← e]
  have : ∀ L1 : List (Addr × List Int), (∀ q ∈ L1, G q.1 = some (.tup (q.2.map V.int))) → A2 ((rT rI).rel K G) (L1.map fun q => V.ref q.1) (L1.map (·.2)) := fun L1 => by
    induction L1 with
    | nil => exact fun _ => .nil
    | cons q L1 ih => exact fun h => .cons ⟨_, _, rfl, h q List.mem_cons_self, _, rfl, .ofMap fun _ _ => rfl⟩ (ih fun y hy => h y (List.mem_cons_of_mem _ hy))
  exact this L' fun q hq => h3 q (pm.mem_iff.mp hq)
/-! ## tuples of two -/
theorem kd_T2r {r : Rep α} {r' : Rep β} : Kd (rd (oT2 r r')) "tuple" := fun K G H v a s ⟨L, ho, h1, h2, x, y, h3, h4, h5⟩ => by subst h1 h3; exact .base (.tup h2)
def gLen2 (_ : α × β) : Option Int := some 2
theorem v_lenT2 {r : Rep α} {r' : Rep β} : VR K (rLenL K) (aOne (rd (oT2 r r'))) rI gLen2 := fun G H v a b Q s ⟨x, h0, L, ho, h1, h2, u, y, h3, h4, h5⟩ hg k => by
  cases hg
  subst h0 h1 h3
  exact ⟨L, _, rfl, .inr (sqt_h h2), k _ G H (.refl s) rfl⟩
/-! ## a name that is of two kinds, one behind the other -/
def rSum (r : Rep α) (r' : Rep β) : Rep (α ⊕ β) := ⟨fun K G v x => match x with | .inl a => r.rel K G v a | .inr b => r'.rel K G v b, fun {K G G' v x} s h => by
  cases x with
  | inl a => exact r.mono s h
  | inr b => exact r'.mono s h⟩
def Ln.zl : Ln (Option (α ⊕ β) × ε) α := ⟨fun e => match e.1 with | some (.inl a) => some a | _ => none, fun a e => (a.map Sum.inl, e.2)⟩
def Ln.zr : Ln (Option (α ⊕ β) × ε) β := ⟨fun e => match e.1 with | some (.inr a) => some a | _ => none, fun a e => (a.map Sum.inr, e.2)⟩
section
variable {e : ε} {o : Option (α ⊕ β)} {a : α} {b : β}
theorem Ln.get_zlS : (Ln.zl : Ln (Option (α ⊕ β) × ε) α).get (some (.inl a), e) = some a := rfl
theorem Ln.get_zlN : (Ln.zl : Ln (Option (α ⊕ β) × ε) α).get (none, e) = none := rfl
theorem Ln.put_zlS : (Ln.zl : Ln (Option (α ⊕ β) × ε) α).put (some a) (o, e) = (some (.inl a), e) := rfl
theorem Ln.put_zlN : (Ln.zl : Ln (Option (α ⊕ β) × ε) α).put none (o, e) = (none, e) := rfl
theorem Ln.get_zrS : (Ln.zr : Ln (Option (α ⊕ β) × ε) β).get (some (.inr b), e) = some b := rfl
theorem Ln.get_zrN : (Ln.zr : Ln (Option (α ⊕ β) × ε) β).get (none, e) = none := rfl
theorem Ln.put_zrS : (Ln.zr : Ln (Option (α ⊕ β) × ε) β).put (some b) (o, e) = (some (.inr b), e) := rfl
theorem Ln.put_zrN : (Ln.zr : Ln (Option (α ⊕ β) × ε) β).put none (o, e) = (none, e) := rfl
end
theorem FrAt.zl {R : ERep ε} {r : Rep α} {r' : Rep β} : FrAt (eFr (rSum r r') R) 0 r Ln.zl := by
  refine ⟨?_, ?_, ?_, ?_, ?_⟩
  · rintro K F G H σ ⟨o, e⟩ a ⟨o1, σ', rfl, h2, h3⟩ h
    have ho : o = some (.inl a) := by
      cases o with
      | none => cases h
      | some x =>
        cases x with
        | inl y => cases h; rfl
        | inr y => cases h
    obtain ⟨v, rfl, hv⟩ := h2 _ ho
    exact ⟨v, rfl, hv⟩
  · rintro K F G H σ e a v ⟨o, σ', rfl, h2, h3⟩ h
    exact ⟨some v, σ', rfl, fun x hx => ⟨v, rfl, by cases hx; exact h⟩, h3⟩
  · rintro K F G H σ e ⟨o, σ', rfl, h2, h3⟩
    exact ⟨o, σ', rfl, fun x hx => (nomatch hx), h3⟩
  · rintro K F G H σ e ⟨o, σ', rfl, h2, h3⟩
    exact ⟨none, σ', rfl, fun x hx => (nomatch hx), h3⟩
  · rintro K F G H G' H' σ ⟨o0, e⟩ e' ⟨o, σ', rfl, h2, h3⟩ s ⟨o', σ'', h4, h5, h6⟩
    obtain ⟨rfl, rfl⟩ := List.cons.inj h4
    refine ⟨o, σ', rfl, fun x hx => ?_, h6⟩
    cases o0 with
    | none => cases hx
    | some y =>
      cases y with
      | inl a => cases hx; obtain ⟨v, a1, b⟩ := h2 _ rfl; exact ⟨v, a1, r.mono s b⟩
      | inr a => cases hx
theorem FrAt.zr {R : ERep ε} {r : Rep α} {r' : Rep β} : FrAt (eFr (rSum r r') R) 0 r' Ln.zr := by
  refine ⟨?_, ?_, ?_, ?_, ?_⟩
  · rintro K F G H σ ⟨o, e⟩ a ⟨o1, σ', rfl, h2, h3⟩ h
    have ho : o = some (.inr a) := by
      cases o with
      | none => cases h
      | some x =>
        cases x with
        | inr y => cases h; rfl
        | inl y => cases h
    obtain ⟨v, rfl, hv⟩ := h2 _ ho
    exact ⟨v, rfl, hv⟩
  · rintro K F G H σ e a v ⟨o, σ', rfl, h2, h3⟩ h
    exact ⟨some v, σ', rfl, fun x hx => ⟨v, rfl, by cases hx; exact h⟩, h3⟩
  · rintro K F G H σ e ⟨o, σ', rfl, h2, h3⟩
    exact ⟨o, σ', rfl, fun x hx => (nomatch hx), h3⟩
  · rintro K F G H σ e ⟨o, σ', rfl, h2, h3⟩
    exact ⟨none, σ', rfl, fun x hx => (nomatch hx), h3⟩
  · rintro K F G H G' H' σ ⟨o0, e⟩ e' ⟨o, σ', rfl, h2, h3⟩ s ⟨o', σ'', h4, h5, h6⟩
    obtain ⟨rfl, rfl⟩ := List.cons.inj h4
    refine ⟨o, σ', rfl, fun x hx => ?_, h6⟩
    cases o0 with
    | none => cases hx
    | some y =>
      cases y with
      | inr a => cases hx; obtain ⟨v, a1, b⟩ := h2 _ rfl; exact ⟨v, a1, r'.mono s b⟩
      | inl a => cases hx
/-! ## a def that is handed in, called -/
theorem x_callPF {mg : Str → Option Value} {base : Heap} {k i : Nat} {R : ERep ε} {l : Ln ε (α → Rs Unit β)} {t : TA} {ra : IR (List V) α} {q : ORep β} {m : ε → Rs ε α} (at' : FrAt R i (rFn P w mg base k ra (fs q)) l) (h : EX ⟨K, E0, cx0⟩ R t (is ra) m) :
    EX ⟨K, E0, cx0⟩ R (tCallF P w K mg base k i t) (fs q) (mCallX (mVar l) m) := fun F G H σ e iv hR Q p => by
  unfold mCallX mVar at p
  cases hl : l.get e with
  | none => rw [hl] at p; exact p.elim
  | some g =>
    rw [hl] at p
    obtain ⟨v, h1, f, rfl, hh⟩ := at'.rd hR hl
    have hc := x_callF (M := ⟨K, E0, cx0⟩) h F G H σ e iv hR Q p
    refine ⟨f, _, h1, hh, ?_⟩
    unfold tCall at hc
    simp only [List.append_nil] at hc
    exact hc
/-! ## stores to items as targets -/
variable {M : Mx} {R : ERep ε}
def ptSub (l : Ln ε γ) (g : γ → α → β → Option γ) (mi : ε → Rs ε α) : β → ε → Rs ε Unit := fun y e => match l.get e with
  | none => .bad
  | some _ => (mi e).bindN fun x e1 => match l.get e1 with
    | none => .bad
    | some st => match g st x y with
      | none => .bad
      | some st' => .ok () (l.put (some st') (l.put none e1))
theorem g_sub {n : Nat} {own : Frm → Addr → Prop} {l : Ln ε γ} {q : ORep γ} {T : TSet} {ti : TE} {ri : Rep α} {r : Rep β} {g : γ → α → β → Option γ} {mi : ε → Rs ε α}
    (vs : VS M.K T q ri r g) (nt : NT q) (oq : OwnQ own) (at' : OwAt R n own q l) (hi : EX M R ti (fz ri) mi) : TGX M R (gSub (tVar n) ti T) (ir r) (ptSub l g mi) := fun F G H σ e v y i hR hr Q ⟨e', h1, h2⟩ => by
  unfold ptSub at h1
  cases h0 : l.get e with
  | none => rw [h0] at h1; cases h1
  | some st0 =>
    rw [h0] at h1
    obtain ⟨L0, ho0, k1, _⟩ := at'.rd hR h0
    refine ⟨_, k1, hi F G H σ e i hR _ ?_⟩
    revert h1
    cases hm : mi e with
    | bad => exact fun h1 => nomatch h1
    | ex c e1 => exact fun h1 => nomatch h1
    | ok x e1 =>
      intro h1
      rintro iv G1 H1 H1' i1 s1 ⟨hr1, rfl⟩ R1
      rw [Rs.bindN_ok] at h1
      cases k2 : l.get e1 with
      | none => rw [k2] at h1; cases h1
      | some st =>
        rw [k2] at h1
        obtain ⟨L, hob, k3, k4, k5, k6, k7, k8⟩ := at'.rd R1 k2
        rw [k1] at k3
        cases k3
        dsimp only at h1
        cases hg : g st x y with
        | none => rw [hg] at h1; cases h1
        | some st' =>
          rw [hg] at h1
          cases h1
          exact vs G1 _ L0 hob st iv x v y st' _ i1.gh k4 k5 k7 hr1 (r.mono s1 hr) hg fun ho' hq => h2 σ G1 _ (i1.put oq k4 k5 k6 (nt _ _ _ _ hq)) s1 (at'.bk (by rw [hide_upd]; exact k8) k1 upd_same k5 k6 hq)
def ptTwo (p : α → ε → Rs ε Unit) (p' : β → ε → Rs ε Unit) : α × β → ε → Rs ε Unit := fun ab e => (p ab.1 e).bindN fun _ e1 => p' ab.2 e1
theorem g_two {g g' : TG} {r : Rep α} {r' : Rep β} {p : α → ε → Rs ε Unit} {p' : β → ε → Rs ε Unit} (h : TGX M R g (ir r) p) (h' : TGX M R g' (ir r') p') : TGX M R (gTup M.K 2 (gCons g (gCons g' gNil))) (ir (rT2 r r')) (ptTwo p p') := fun F G H σ e v a i hR hr Q ⟨e', h1, h2⟩ => by
  obtain ⟨L, ho, rfl, hg, x, y, rfl, hx, hy⟩ := hr
  unfold ptTwo at h1
  cases hp : p a.1 e with
  | bad => rw [hp] at h1; cases h1
  | ex c e1 => rw [hp] at h1; cases h1
  | ok u e1 =>
    rw [hp, Rs.bindN_ok] at h1
    refine ⟨L, _, rfl, sqt_of i.gh hg, rfl, x, _, rfl, h F G H σ e x a.1 i hR hx _ ⟨e1, hp, fun σ1 G1 H1 i1 s1 R1 => ⟨y, _, rfl, h' F G1 H1 σ1 e1 y a.2 i1 R1 (r'.mono s1 hy) _ ⟨e', h1, fun σ2 G2 H2 i2 s2 R2 => ⟨rfl, h2 σ2 G2 H2 i2 (s1.trans s2) R2⟩⟩⟩⟩⟩
theorem ptTwo_nx {p : α → ε → Rs ε Unit} {p' : β → ε → Rs ε Unit} (h' : ∀ a e c e', p' a e ≠ .ex c e') : ∀ a e c e', ptTwo p p' a e ≠ .ex c e' := fun a e c e' z => by
  unfold ptTwo at z
  cases hp : p a.1 e with
  | bad => rw [hp] at z; cases z
  | ex c e1 => rw [hp] at z; cases z
  | ok u e1 => rw [hp, Rs.bindN_ok] at z; exact h' _ _ _ _ z
theorem ptSub_nx {l : Ln ε γ} {g : γ → α → β → Option γ} {mi : ε → Rs ε α} : ∀ y e c e', ptSub l g mi y e ≠ .ex c e' := fun y e c e' z => by
  unfold ptSub at z
  cases h0 : l.get e with
  | none => rw [h0] at z; cases z
  | some st0 =>
    rw [h0] at z
    revert z
    cases hm : mi e with
    | bad => exact fun z => nomatch z
    | ex c e1 => exact fun z => nomatch z
    | ok x e1 =>
      intro z
      rw [Rs.bindN_ok] at z
      cases k2 : l.get e1 with
      | none => rw [k2] at z; cases z
      | some st =>
        rw [k2] at z
        dsimp only at z
        cases hg : g st x y with
        | none => rw [hg] at z; cases z
        | some st' => rw [hg] at z; cases z
theorem sp_asg {m : ε → Rs ε α} {pt : α → ε → Rs ε Unit} {e : ε} {N C B : ε → Prop} {T : ρ → ε → Prop} : SoP (mAsg m pt e : So ε ρ) N C B T = RsP (m e) fun a e1 => RsP (pt a e1) fun _ e2 => N e2 := by
  unfold mAsg
  rw [sp_so]
  congr
  funext a e1
  rw [sp_so]
  congr
  funext _ e2
  rw [sp_nx]
theorem rp_ptTwo {p : α → ε → Rs ε Unit} {p' : β → ε → Rs ε Unit} {a : α × β} {e : ε} {Q : Unit → ε → Prop} : RsP (ptTwo p p' a e) Q = RsP (p a.1 e) fun _ e1 => RsP (p' a.2 e1) Q := by
  unfold ptTwo
  rw [rp_bindN]
theorem rp_ptSub {l : Ln ε γ} {g : γ → α → β → Option γ} {mi : ε → Rs ε α} {y : β} {e : ε} {Q : Unit → ε → Prop} : RsP (ptSub l g mi y e) Q = OpP (l.get e) fun _ => RsP (mi e) fun x e1 => OpP (l.get e1) fun st => OpP (g st x y) fun st' => Q () (l.put (some st') (l.put none e1)) := by
  unfold ptSub
  cases h0 : l.get e with
  | none => rw [RsP_eq, OpP_eq]; rfl
  | some st0 =>
    rw [op_some]
    dsimp only
    rw [rp_bindN]
    congr
    funext x e1
    cases k2 : l.get e1 with
    | none => rw [RsP_eq, OpP_eq]; rfl
    | some st =>
      rw [op_some]
      dsimp only
      cases hg : g st x y with
      | none => rw [RsP_eq, OpP_eq]; rfl
      | some st' => rw [op_some, rp_ok]
end
/-! # dict.update(pairs), len of dicts and texts, str of numbers -/
section
variable {prog : Program} {w : World} {A : Around} {E : Value → Shared → Prop}
theorem call_update_pairs {s : Shared} {l d : Addr} {ol : Obj} {items : Array Value} {n : Nat} {acc prs : List (Key × Value)} {Q : Value → Shared → Prop} (hh : A.handled = none) (hl : s.heap.get? l = some ol) (hc : ol.cls = .type "list") (hd : ol.dict = none)
    (hdat : ol.data = .seq items n) (hsz : items.size = prs.length) (hln : acc.length + prs.length ≤ sizeLine) (hdl : d ≠ l) (hD : s.heap.DictOf (mixKind prog w) d acc)
    (ht : ∀ (j : Nat) (q : Key × Value), prs[j]? = some q → ∃ (b : Addr) (u : Value), items[j]? = some (.ref b) ∧ b ≠ d ∧ IsTup s.heap b #[u, q.2] ∧ keyIs q.1 u = true)
    (h : ∀ h' tk, h'.DictOf (mixKind prog w) d (merged acc prs) → (∀ b o, b ≠ d → s.heap.get? b = some o → h'.get? b = some o) → Q .none { s with heap := h', toks := tk }) :
    wpAny (model prog w) A (call (.builtin "dict.update") [.ref d, .ref l]) Q E s := by
  refine call_meetsIn (S := fun A' R s' => A'.handled = none ∧ s' = s ∧ ∀ h' tk, h'.DictOf (mixKind prog w) d (merged acc prs) → (∀ b o, b ≠ d → s.heap.get? b = some o → h'.get? b = some o) → R (.ok (.ret .none)) { s with heap := h', toks := tk }) PySem.F.slot_dict_update hD.typeIs PySem.F.entry_dict_update (PySem.F.args_dict_update_2 _ _) ?_ ⟨hh, rfl, fun h' tk h1 h2 => h h' tk h1 h2⟩
  rintro A R s' ⟨hh, rfl, hR⟩
  unfold Builtin.«dict.update»
  refine wpAny_bind ?_
  unfold Builtin.Dict.selfAndRest
  refine wpAny_bind (wpAny_notOrdered_dict hD.typeIs ?_)
  show wpAny _ _ (pure (d, [Value.ref l])) _ _ _
  refine wpAny_pure ?_
  show wpAny _ _ (Builtin.Dict.updateFrom "dict.update" d (.ref l) [] .none) _ _ _
  unfold Builtin.Dict.updateFrom
  refine wpAny_bind (wpAny_typeOf (T := "list") ⟨ol, hl, hc⟩ ?_)
  rw [if_pos (by first | decide | rfl | simp)]
  refine wpAny_bind (miss_list hl hc hdat hd hh fun h1 tk1 hk1 => ?_)
  rw [if_pos (show (none : Option Value).isNone = true from rfl)]
  refine wpAny_bind (wpAny_rule ?_)
  have hl1 : h1.IsList l items := ⟨ol, hk1 _ _ hl, hc, n, hdat⟩
  refine wpAny_bind (wpAny_pyIter_list hl1 ?_)
  have k2 : ∀ b o, h1.get? b = some o → (h1.push { cls := .type "list_iterator", data := .fields #[.ref l, .int 0 0] }).get? b = some o := fun b o e => Heap.get?_push_of_some _ e
  have ltd : d < h1.objs.size := by
    obtain ⟨q, _, _, hq, _⟩ := id hD
    exact Heap.lt_size (hk1 _ _ hq)
  have lt : ∀ {b o}, s'.heap.get? b = some o → b < h1.objs.size := fun e => Heap.lt_size (hk1 _ _ e)
  have key := upd_loop (prog := prog) (w := w) (A := A) (R := R) (S := d) (I := h1.objs.size) (l := l) (items := items) (res := Value.none) hh
    (Nat.ne_of_lt (lt hl)) (Nat.ne_of_lt ltd) hdl prs 0 acc 0 0
    { s' with heap := h1.push { cls := .type "list_iterator", data := .fields #[.ref l, .int 0 0] }, toks := tk1 } (by rw [hsz, Nat.zero_add]) hln
    (fun j q e => by
      obtain ⟨b, u, e1, e2, e3, e4⟩ := ht j q e
      obtain ⟨ob, hob, _⟩ := id e3
      exact ⟨b, u, by rw [Nat.zero_add]; exact e1, e2, Nat.ne_of_lt (lt hob), e3.keeps fun c o z => k2 _ _ (hk1 _ _ z), e4⟩)
    ⟨_, Heap.get?_push_size _ rfl, rfl, rfl⟩ (hl1.at fun o e => k2 _ _ e) ((hD.at fun o e => hk1 _ _ e).at fun o e => k2 _ _ e)
    (fun h' tk hd' k => hR h' tk hd' fun b o hb e => k b o hb (Nat.ne_of_lt (lt e)) (k2 _ _ (hk1 _ _ e)))
  first
    | exact wpAny_pure ⟨plainId_quiet ud_plain _, key⟩
    | exact wpAny_bind (wpAny_pure (wpAny_pure ⟨plainId_quiet ud_plain _, key⟩))
end
section
variable {X : Cx}
def rUpdP (K : PySem.W.Frag) : V → List V → Hp → VK → Prop := fun x xs H Q => ∃ (d a : Addr) (kvs : List (Key × V)) (ps : List Addr) (more : List (Key × V)), x = .ref d ∧ xs = [.ref a] ∧ H d = some (.dK kvs) ∧ SqL K H a (ps.map V.ref) ∧ Paired (fun p kv => SqT K H p [kV kv.1, kv.2]) ps more ∧
    kvs.length + more.length ≤ sizeLine ∧ (∀ p ∈ ps, p ≠ d) ∧ a ≠ d ∧ Q .non (upd H d (.dK (mergeK kvs more)))
theorem mt_updP (hcalm : X.calm = true) : MtR X "dict.update" (rUpdP X.K) := by
  intro pins s σ H x xs v us Q I rx rxs h
  obtain ⟨d, a, kvs, ps, more, rfl, rfl, hd, hq, hp, hz, np, na, q⟩ := h
  cases rx
  obtain ⟨u, rfl, ru⟩ := vals1 rxs
  cases ru
  obtain ⟨its, rv, pl, hz2⟩ := I.list hq
  have ei := refs_at rv
  subst ei
  obtain ⟨prs, rel, hl, hpr⟩ := pairs_of I hp
  obtain ⟨o, n, ho, hc, hdn, hdat⟩ := pl
  obtain ⟨z, hdS, vs, relD, dd⟩ := dk_of I.hok hd
  have e1 := rel.length
  have e2 := relD.length
  refine call_update_pairs (prs := prs) (acc := vs) (I.ok.hd hcalm) ho hc hdn hdat (by simp [hl]) (by omega) (fun z => na z.symm) dd (fun j q' e => ?_) fun h' tk hd' k => ?_
  · obtain ⟨b, u, e1, e2, e3⟩ := hpr j q' e
    exact ⟨b, u, by simp [e1], np b (List.mem_of_getElem? e1), e2, e3⟩
  · have hlen : (mergeK kvs more).length ≤ sizeLine := Nat.le_trans (length_mergeK more kvs) hz
    have he : ∃ q, h'.get? d = some q := let ⟨q, _, _, hq, _⟩ := hd'; ⟨q, hq⟩
    exact ⟨.non, _, I.write (x := d) (e := d) (by rw [hd]; exact True.intro) (.inl rfl) (fun b u hb e => k b u hb e) he (dk_new hlen hdS (KV.merge rel relD) hd'), rfl, q⟩
end
section
variable {K : PySem.W.Frag} {α β γ ε ρ : Type}
/-- the pairs put one after the other -/
def dputs (kbs more : List (Int × β)) : List (Int × β) := more.foldl (fun acc kv => dput acc kv.1 kv.2) kbs
def gUpd (kbs more : List (Int × β)) : Option (Unit × List (Int × β)) := if kbs.length + more.length < 1000000 then some ((), dputs kbs more) else none
theorem DR.merge {r : Rep β} {G : Hp} {m : List (Key × V)} {more : List (Int × β)} (h : DR kInt r K G m more) : ∀ {kvs : List (Key × V)} {kbs : List (Int × β)}, DR kInt r K G kvs kbs → DR kInt r K G (mergeK kvs m) (dputs kbs more) := by
  unfold DR at h
  induction h with
  | nil => exact fun h => h
  | cons h1 _ ih =>
    intro kvs kbs h
    rename_i a b as bs _
    have := ih (h.put (k := b.1) h1.2)
    rw [← h1.1] at this
    exact this
theorem prs_of {r : Rep β} {G H : Hp} {vs : List V} {more : List (Int × β)} (s : Sub G H) (h : A2 ((rT2 rI r).rel K G) vs more) : ∃ (ps : List Addr) (m : List (Key × V)), vs = ps.map V.ref ∧ Paired (fun p kv => SqT K H p [kV kv.1, kv.2]) ps m ∧ DR kInt r K G m more ∧ ∀ p ∈ ps, ∃ o, G p = some o := by
  induction h with
  | nil => exact ⟨[], [], rfl, .nil, .nil, by simp⟩
  | cons h1 _ ih =>
    rename_i v x vs xs _
    obtain ⟨ps, m, rfl, h2, h3, h4⟩ := ih
    obtain ⟨L, ho, rfl, h6, u, y, rfl, h7, h8⟩ := h1
    refine ⟨L :: ps, (.inl x.1, y) :: m, rfl, .cons (.inl (.inl ?_)) h2, .cons ⟨rfl, h8⟩ h3, fun p hp => ?_⟩
    · rw [s _ _ h6, show u = .int x.1 from h7]
      rfl
    · rcases List.mem_cons.mp hp with rfl | hp
      · exact ⟨_, h6⟩
      · exact h4 p hp
theorem v_updP {r : Rep β} : VM K (rUpdP K) (oDI r) (gOne (rz (oL (rT2 rI r)))) rN gUpd := fun G H L ho st vs a b st' Q s h1 h2 ⟨kvs, h3, h4⟩ ⟨v, h5, h6⟩ hg k => by
  subst h3 h5
  obtain ⟨hz, e⟩ := of_ite hg
  cases e
  obtain ⟨l, hol, rfl, h7, ws, rfl, h8⟩ := h6
  obtain ⟨ps, m, rfl, p1, p2, p3⟩ := prs_of s h8
  have e1 := A2.length h4
  have e2 := A2.length p2
  refine ⟨L, l, kvs, ps, m, rfl, rfl, h1, .inl (.inl (s _ _ h7)), p1, ?_, fun p hp z => ?_, fun z => ?_, k _ _ ⟨_, rfl, p2.merge h4⟩ rfl⟩
  · rw [sizeLine_eq]
    omega
  · obtain ⟨o, ho⟩ := p3 p hp
    rw [z, h2] at ho
    cases ho
  · rw [z, h2] at h7
    cases h7
theorem ty_DI {r : Rep α} : Ty "dict" (oDI r) := fun K G H L ho st h ⟨kvs, h1, _⟩ => by subst h1; exact .inr (.inr (.inl ⟨rfl, .inl ⟨_, h⟩⟩))
/-! ## len of a dict with numbers as keys -/
def rLenK : List V → Hp → VK → Prop := fun xs H Q => ∃ a kvs, xs = [V.ref a] ∧ H a = some (.dK kvs) ∧ Q (.int kvs.length) H
theorem cr_lenK {X : Cx} : CallR X (.builtin "len") rLenK := call_lenD
theorem v_lenK {r : Rep β} : VR K rLenK (aOne (rd (oDI r))) rI gLen := fun G H v a b Q s ⟨x, h0, L, ho, h1, h2, kvs, h3, h4⟩ hg k => by
  cases hg; subst h0 h1 h3
  refine ⟨L, kvs, rfl, h2, ?_⟩
  rw [A2.length h4]
  exact k _ G H (.refl s) rfl
theorem v_lenD {r : Rep β} : VR K L2.rLenT (aOne (rd (oD r))) rI gLen := fun G H v a b Q s ⟨x, h0, L, ho, h1, h2, kvs, h3, h4⟩ hg k => by
  cases hg; subst h0 h1 h3
  unfold L2.rLenT
  refine ⟨L, kvs, rfl, h2, ?_⟩
  rw [A2.length h4]
  exact k _ G H (.refl s) rfl
/-! ## str(n), len(text) -/
def gStr (n : Int) : Option Str := if n.natAbs.log2 < 1920 then some (toString n) else none
theorem v_str : VR K rStr (aOne (ir rI)) rS gStr := fun G H v a b Q s ⟨x, h0, h1⟩ hg k => by
  obtain ⟨hz, e⟩ := of_ite hg
  cases e
  subst h0
  exact ⟨a, by rw [show x = .int a from h1], hz, k _ G H (.refl s) rfl⟩
def gLenS (z : Str) : Option Int := if z.length ≤ 1000000 then some (z.length : Int) else none
theorem v_lenStr : VR K rLenStr (aOne (ir rS)) rI gLenS := fun G H v a b Q s ⟨x, h0, h1⟩ hg k => by
  obtain ⟨hz, e⟩ := of_ite hg
  cases e
  subst h0
  exact ⟨a, by rw [show x = .str a from h1], Nat.le_trans hz (by rw [sizeLine_eq]; decide), k _ G H (.refl s) rfl⟩
end
/-! # sorted(d), d a dict with tuples as keys -/
theorem keys_rows {H : Hp} : ∀ {kvs : List (List Key × V)} {as : List Addr} {fs : List (List Int)}, IsKeys H kvs as → kvs.map (·.1) = fs.map (fun f => f.map Sum.inl) →
    ∃ bs : List (Addr × List Int), as = bs.map (·.1) ∧ bs.map (·.2) = fs ∧ ∀ b ∈ bs, H b.1 = some (.tup (b.2.map V.int))
  | _, _, [], .nil, _ => ⟨[], rfl, rfl, by simp⟩
  | _, _, f :: fs, .nil, h => by simp at h
  | _, _, [], .cons _ _, h => by simp at h
  | _, _, f :: fs, .cons (a := p) (b := a) h1 t, h => by
    rw [List.map_cons, List.map_cons] at h
    obtain ⟨e1, e2⟩ := List.cons.inj h
    obtain ⟨bs, rfl, q2, q3⟩ := keys_rows t e2
    refine ⟨(a, f) :: bs, rfl, by rw [List.map_cons, q2], fun b hb => ?_⟩
    rcases List.mem_cons.mp hb with rfl | hb
    · show H a = some (.tup (f.map V.int))
      rw [h1, e1, List.map_map]
      rfl
    · exact q3 b hb
section
variable {X : Cx} {pins : List (Addr × Obj)} {σ : L2.St} {H : Hp} {s : Shared} {h' : Heap}
/-- an object laid where none was -/
theorem inv_laid {a : Addr} {o : HO} {t' : Nat} (I : Inv X pins σ H s) (k : ∀ b u, s.heap.get? b = some u → h'.get? b = some u) (hp : ∀ b u, s.heap.get? b = some u → b ≠ a) (hn : H a = none) (new : ObjOk X.prog X.w (upd H a o) h' a o) :
    Inv X pins σ (upd H a o) { s with heap := h', toks := t' } := by
  refine I.un (h' := h') ⟨fun b u q _ _ _ => k b u q, fun b u q _ _ _ => ⟨u.slots, k b u q⟩, fun b u q n _ => ?_, fun b u q _ => ⟨u, k b u q⟩, fun b xs q => ?_, fun b u xs q => ?_, fun b ps q => ⟨#[], ?_⟩⟩ fun b u e => ?_
  · rw [upd_ne (hp b u q)]; exact n
  · rw [upd_ne (ne_of_none q hn)]; exact q
  · rw [upd_ne (ne_of_none q hn)]; exact q
  · rw [upd_ne (ne_of_none q hn), q]; simp
  · by_cases hb : b = a
    · subst hb; rw [upd_same] at e; cases e; exact new
    · rw [upd_ne hb] at e
      exact (I.hok b u e).stay (fun c v _ q => k c v q) (fun c q => by rw [upd_ne (ne_of_none q hn)]; exact q) fun c xs q => by rw [upd_ne (ne_of_none q hn)]; exact q
end
section
variable {X : Cx}
def rSortDT (K : PySem.W.Frag) : List V → Hp → VK → Prop := fun vs H Q => ∃ (d : Addr) (kvs : List (List Key × V)) (fs : List (List Int)), vs = [V.ref d] ∧ H d = some (.dT kvs) ∧ kvs.map (·.1) = fs.map (fun f => f.map Sum.inl) ∧ kvs.length ≤ 1000000 ∧
  ∀ bs : List (Addr × List Int), bs.map (·.2) = fs → (∀ b ∈ bs, H b.1 = some (.tup (b.2.map V.int))) → New H (.lst ((bs.mergeSort fun p q => tLe p.2 q.2).map fun b => .ref b.1)) Q
theorem cr_sortDT (hc : X.calm = true) (hu : X.A.units + 64 < cLine) : CallR X (.builtin "sorted") (rSortDT X.K) := by
  intro pins s σ H vs us Q I r h
  obtain ⟨d, kvs, fs, rfl, hd, hf, hz, q⟩ := h
  rw [Vals.ref1 r]
  obtain ⟨z, hs, ks, pr, o, es, ep, ho, hx, hdt, he, hn⟩ := (show ObjOk X.prog X.w H s.heap d (.dT kvs) from I.hok d _ hd)
  have l1 : es.size = ks.length := size_of_entries he
  have l2 : kvs.length = ks.length := Paired.length pr
  obtain ⟨bs, ea0, e2, ht⟩ := keys_rows (isKeys_of pr) hf
  refine PySem.Calls.call_function_entry kind_sorted plain_sorted entry_sorted (args_sorted1 _) ?_
  unfold Builtin.«sorted»
  refine wpAny_bind (m := checkCount "sorted" 1 1 _) (wpAny_pure ?_)
  refine wpAny_bind (PySem.W.kdu_collect (A := X.A.in1) (kdl_raw hs hx hdt) (I.ok.hd hc) ho (by rw [sizeLine_eq]; omega) fun h' tk acc' kp it => ?_)
  have ea : acc'.toList = ks.map fun x => Value.ref x.2.1 := by
    have hl : acc'.toList.length = ks.length := by rw [Array.length_toList, it.1]; exact l1
    apply List.ext_getElem?
    intro j
    rw [List.getElem?_map]
    cases hj : acc'.toList[j]? with
    | none =>
      have h1 := List.getElem?_eq_none_iff.mp hj
      rw [List.getElem?_eq_none (by omega)]
      rfl
    | some v =>
      obtain ⟨en, hen, hv⟩ := it.2 j v (by rw [← Array.getElem?_toList]; exact hj)
      have qe := entry_at he j
      rw [hen] at qe
      cases hb : ks[j]? with
      | none =>
        rw [hb] at qe
        exact nomatch (show some en = none from qe)
      | some b =>
        rw [hb] at qe
        have e2 : en = entryOfKey (tupleKind (mixKind X.prog X.w)) b := Option.some.inj qe
        rw [hv, e2]
        rfl
  have eb : acc'.toList = bs.map fun b => Value.ref b.1 := by
    rw [ea, show (ks.map fun x => Value.ref x.2.1) = (ks.map fun x => x.2.1).map Value.ref by rw [List.map_map]; rfl, ea0, List.map_map]
    rfl
  generalize hvs : acc'.toList = vs at eb ⊢
  have lb : bs.length = kvs.length := by
    have := congrArg List.length hf
    rw [List.length_map, List.length_map, ← e2, List.length_map] at this
    omega
  have hvl : vs.length ≤ 1000000 := by rw [eb, List.length_map]; omega
  refine wpAny_bind (wpAny_newList ?_ (by rw [sizeLine_eq]; omega))
  have hoL : (h'.push (seqObj "list" vs.toArray 0)).get? h'.objs.size = some (seqObj "list" vs.toArray 0) := Heap.get?_push_size _ rfl
  have old : ∀ b u, s.heap.get? b = some u → (PySem.W.sortingHeap (h'.push (seqObj "list" vs.toArray 0)) h'.objs.size vs).get? b = some u := fun b u e =>
    PySem.W.sortingHeap_old (Nat.ne_of_lt (Heap.lt_size (kp _ _ e))) (Heap.get?_push_of_some _ (kp _ _ e))
  have e1 : PySem.W.EachIs (fun v (b : Addr × List Int) => v = Value.ref b.1) vs bs := by rw [eb]; exact each_rows bs
  have er0 : ∀ {bs : List (Addr × List Int)} {its : List Value}, (∀ b ∈ bs, H b.1 = some (.tup (b.2.map V.int))) → PySem.W.EachIs (fun v (b : Addr × List Int) => v = .ref b.1) its bs → PySem.W.EachIs (fun v (b : Addr × List Int) => ∃ as, Reads (PySem.W.sortingHeap (h'.push (seqObj "list" vs.toArray 0)) h'.objs.size vs) v (encT b.2) as) its bs := by
    intro bs its hb e
    induction e with
    | nil => exact .nil
    | cons r1 _ ih =>
      refine .cons ?_ (ih fun x hx => hb x (List.mem_cons_of_mem _ hx))
      obtain ⟨as, r⟩ := Dp.reads I _ _ _ (dp_tup (K := X.K) (.inl (.inl (hb _ List.mem_cons_self)))) rfl
      exact ⟨as, r1 ▸ PyProof.Rows.Reads.keeps old r⟩
  have er1 := er0 ht e1
  have S := sortsAt_tups (prog := X.prog) (w := X.w) (A := X.A.in1.in1) (s := { s with heap := PySem.W.sortingHeap (h'.push (seqObj "list" vs.toArray 0)) h'.objs.size vs, toks := tk })
    (PySem.W.each_map (R := fun v d => ∃ as, Reads (PySem.W.sortingHeap (h'.push (seqObj "list" vs.toArray 0)) h'.objs.size vs) v d as) (fun b : Addr × List Int => encT b.2) er1) (alike_tups bs) (are_tups bs) (fun d hd => by
      obtain ⟨b, _, rfl⟩ := List.mem_map.mp hd
      exact depth_encT hu)
  have eo := PySem.W.sortVals_data false e1 er1 (alike_tups bs)
  refine wpAny_bind (wpAny_holding (wpAny_call_entry slot_list_sort ⟨_, hoL, rfl⟩ entry_list_sort (PySem.W.list_sort_vals (s := { s with heap := h'.push (seqObj "list" vs.toArray 0), toks := tk }) hoL S (by rw [sizeLine_eq]; omega) ⟨.none, rfl, ?_⟩) (args_list_sort _)))
  generalize PySem.W.sortVals (PySem.W.dataKind (PySem.W.sortingHeap (h'.push (seqObj "list" vs.toArray 0)) h'.objs.size vs) (bs.map fun b => encT b.2)) false vs vs = out at eo ⊢
  have e2 : PySem.W.dataLe false (fun b : Addr × List Int => encT b.2) = fun p q => tLe p.2 q.2 := funext fun p => funext fun q => tupLe p q
  rw [e2] at eo
  obtain ⟨c, hcc⟩ := sortedHeap_at (vs := vs) (out := out.toArray) hoL
  have keep : ∀ b u, s.heap.get? b = some u → (sortedHeap (h'.push (seqObj "list" vs.toArray 0)) h'.objs.size vs out.toArray).get? b = some u := fun b u e => by
    have qk := kp b u e
    have hlt := Heap.lt_size qk
    rw [sortedHeap_old (Nat.ne_of_lt hlt) (by rw [size_push']; exact Nat.lt_succ_of_lt hlt)]
    exact Heap.get?_push_of_some _ qk
  have hfr : H h'.objs.size = none := (I.hok.kept kp).fresh (Nat.le_refl _)
  have new : ObjOk X.prog X.w (upd H h'.objs.size (.lst ((bs.mergeSort fun p q => tLe p.2 q.2).map fun b => V.ref b.1))) (sortedHeap (h'.push (seqObj "list" vs.toArray 0)) h'.objs.size vs out.toArray) h'.objs.size (.lst ((bs.mergeSort fun p q => tLe p.2 q.2).map fun b => V.ref b.1)) :=
    ⟨by rw [List.length_map, List.length_mergeSort, sizeLine_eq]; omega, out, c, refs_each eo, hcc⟩
  refine wpAny_pure ⟨_, rfl, .ref h'.objs.size, _, inv_laid (s := s) I keep (fun b u e => Nat.ne_of_lt (Heap.lt_size (kp b u e))) hfr new, rfl, q bs ‹_› ht _ hfr⟩
end
section
variable {K : PySem.W.Frag} {α β γ ε ρ : Type}
def srtK (fs : List (List Int)) : List (List Int) := fs.mergeSort tLe
def gSortK (kbs : List (List Int × β)) : Option (List (List Int)) := if kbs.length ≤ 1000000 then some (srtK (keysOf kbs)) else none
def tps {ν α : Type} (ra : IR ν α) : IR ν α := fun K G H v a => ra K G H v a ∧ Tps G H
theorem x_tps {ν : Type} {M : Mx} {R : ERep ε} {t : Sg → Hp → (ν → Hp → Prop) → Prop} {ra : IR ν α} {m : ε → Rs ε α} (h : EX M R t (is ra) m) : EX M R t (is (tps ra)) m := fun F G H σ e i hR Q p =>
  h F G H σ e i hR Q (by
    revert p
    cases m e with
    | ok a e1 => exact fun p v G' H' H1 i1 s1 hr R1 => p v G' H' H1 i1 s1 ⟨⟨hr.1, i1.tp⟩, hr.2⟩ R1
    | ex c e1 => exact fun p => p
    | bad => exact fun p => p)
theorem v_sortDT {r : Rep β} : VF K (rSortDT K) (tps (aOne (rd (oD r)))) (oL (rT rI)) gSortK := fun G H v a b Q s ⟨⟨x, h0, L, ho, h1, h2, kvs, h3, h4⟩, tp⟩ hg k => by
  subst h0 h1 h3
  obtain ⟨hz, e⟩ := of_ite hg
  cases e
  have keq : ∀ {kvs : List (List Key × V)} {a : List (List Int × β)}, DR kTup r K G kvs a → kvs.map (·.1) = (keysOf a).map (fun f => f.map Sum.inl) := fun {kvs a} h => by
    unfold DR at h
    unfold keysOf
    induction h with
    | nil => rfl
    | cons h1 _ ih =>
      rw [List.map_cons, List.map_cons, List.map_cons, ih, h1.1]
      rfl
  refine ⟨L, kvs, keysOf a, rfl, h2, keq h4, by rw [A2.length h4]; exact hz, fun bs e1 e2 p hp => ?_⟩
  refine k p _ G _ (.own s hp) hp (s.no hp) upd_same ⟨_, rfl, ?_⟩
  have e : srtK (bs.map (·.2)) = (bs.mergeSort fun p q => tLe p.2 q.2).map (·.2) := (PySem.W.sort_maps (r := fun p q : Addr × List Int => tLe p.2 q.2) (s := tLe) (·.2) fun _ _ _ _ => rfl).symm
  rw [← e1, e]
  have : ∀ cs : List (Addr × List Int), (∀ c ∈ cs, c ∈ bs) → A2 ((rT rI).rel K G) (cs.map fun b => V.ref b.1) (cs.map (·.2)) := fun cs => by
    induction cs with
    | nil => intro _; exact .nil
    | cons c cs ih => intro hc; exact .cons ⟨c.1, _, rfl, tp _ _ (e2 c (hc c List.mem_cons_self)), _, rfl, .ofMap fun _ _ => rfl⟩ (ih fun x hx => hc x (List.mem_cons_of_mem _ hx))
  exact this _ fun c hc => List.mem_mergeSort.mp hc
theorem srtK_perm (fs : List (List Int)) : (srtK fs).Perm fs := by
  unfold srtK
  exact List.mergeSort_perm _ _
end
/-! # Exceptions that are caught, kept, and asked for their classes -/
/-- a caught exception -/
def exq (a : Addr) (cls : Value) (d : Option Addr) : HO := .ext fun h => ∃ oe vs, h.get? a = some oe ∧ Zc cls d oe ∧ oe.data = .fields vs
theorem exq_ok {P : Program} {w : World} {H : Hp} {h : Heap} {a : Addr} {cls : Value} {d : Option Addr} {oe : Obj} {vs : Array Value} (he : h.get? a = some oe) (hz : Zc cls d oe) (hd : oe.data = .fields vs) : ObjOk P w H h a (exq a cls d) :=
  ⟨⟨oe, vs, he, hz, hd⟩, ⟨_, he⟩, fun h1 h2 ⟨oe, vs, q1, q2, q3⟩ k => ⟨oe, vs, k _ q1, q2, q3⟩⟩
section
variable {X : Cx} {pins : List (Addr × Obj)} {σ : L2.St} {H : Hp} {s : Shared}
/-- an object that no one tracked, from now on told -/
theorem inv_exq {a : Addr} {cls : Value} {d : Option Addr} {oe : Obj} {vs : Array Value} (I : Inv X pins σ H s) (he : s.heap.get? a = some oe) (hz : Zc cls d oe) (hd : oe.data = .fields vs) (na : H a = none) (n0 : X.s_0.heap.get? a = none) (nL : a ≠ X.env.locals) (np : ∀ p ∈ X.pn ++ pins, p.1 ≠ a) :
    Inv X pins σ (upd H a (exq a cls d)) s := by
  refine ⟨I.ok, I.os, I.bare, ⟨I.base.keep, I.base.slot, fun b o e n hx => ?_, I.base.there, fun b xs e => ?_, fun b o u e => ?_, fun b ps e => ?_⟩, I.loc, I.cell, ?_, fun x c e => ?_, fun p hp => ?_, fun b o e => ?_, I.len⟩
  · rw [upd_ne (fun z => by rw [z, n0] at e; cases e)]
    exact I.base.free b o e n hx
  · have := I.base.tups b xs e
    rw [upd_ne (ne_of_none this na)]
    exact this
  · have := I.base.frzs b o u e
    rw [upd_ne (ne_of_none this na)]
    exact this
  · obtain ⟨more, this⟩ := I.base.tbls b ps e
    rw [upd_ne (ne_of_none this na)]
    exact ⟨more, this⟩
  · rw [upd_ne (Ne.symm nL)]
    exact I.free
  · rw [upd_ne (fun z => ?_)]
    · exact I.freeC x c e
    · obtain ⟨v, o, ho, hc⟩ := I.cell x c e
      rw [z, he] at ho
      cases ho
      rw [hd] at hc
      cases hc
  · obtain ⟨p1, p2, p3, p4, p5⟩ := I.pin p hp
    exact ⟨p1, by rw [upd_ne (np p hp)]; exact p2, p3, p4, p5⟩
  · by_cases hb : b = a
    · subst hb
      rw [upd_same] at e
      cases e
      exact exq_ok he hz hd
    · rw [upd_ne hb] at e
      refine (I.hok b o e).stay (fun _ _ _ q => q) (fun c q => ?_) fun c xs q => ?_
      · rw [upd_ne (ne_of_none q na)]
        exact q
      · rw [upd_ne (ne_of_none q na)]
        exact q
end
/-- what the clause 'except x as n: y = n' wishes -/
def wK (K : PySem.W.Frag) (c : Value) (i : Nat) (ts : Addr → Value → Option Addr → TS) (D : Ends) : WX := fun cls d σ H =>
  PySem.W.exmOne K cls c = some true ∧ ∀ a, H a = none → ts a cls d { nx := fun σ' H' => H' a = none ∧ D.nx (σ'.set i none) (upd H' a (exq a cls d)), rt := fun _ _ => False, bk := fun _ _ => False, ct := fun _ _ => False } (σ.set i (some (.ref a))) H
section
variable {X : Cx} {x n : Str} {c : Value} {i : Nat} {body suite : List Stmt} {b₀ : Stmt} {np pos pos' : Pos} {tb : WX → TS} {ts : Addr → Value → Option Addr → TS}
theorem ps_try_keep (hs : X.stack = X.env :: X.outer) (hf : X.env.frame = some X.env.locals) (hex : X.ex = []) (hN : X.N.Nodup) (hi : X.N[i]? = some n) (hln : X.env.kindOf n = some .local) (hc : Names X x c)
    (hb : ∀ (W : WX) (pn : List (Addr × Obj)) (xe : Value → Shared → Prop), Takes (X.tr pn xe) W → PassesOwn (model X.prog X.w) X.A X.env xe → PSs (X.tr pn xe) body (tb W))
    (hsu : ∀ (a : Addr) (oe : Obj) (cls : Value) (d : Option Addr) (pn : List (Addr × Obj)), Zc cls d oe → (∃ vs, oe.data = .fields vs) → PSs (X.suite a ((a, oe) :: pn)) (b₀ :: suite) (ts a cls d)) :
    PS X (.Try body [.ExceptHandler (some (.Name x np)) (some n) (b₀ :: suite) pos'] [] [] pos) (fun D σ H => tb (wK X.K c i ts D) D σ H) := by
  refine ⟨fun pins s σ H D I h => ?_⟩
  have ok := I.ok
  have hfr : X.A.frames = some (X.env :: X.outer) := by rw [ok.frames, hs]
  have hloc : Loc X.env.scope n := .inl hln
  refine wpAny_Try_except ?_
  refine wpAny_mono ((hb (wK X.K c i ts D) (X.pn ++ pins) (fun e s₁ => wpAny (model X.prog X.w) X.A (noteFrame e X.env) (fun _ s₂ => wpAny (model X.prog X.w) X.A (setFlight e none) (fun _ s₃ =>
    wpAny (model X.prog X.w) X.A (handleBy e X.env [.ExceptHandler (some (.Name x np)) (some n) (b₀ :: suite) pos']) (SP X pins D) X.xe s₃) X.xe s₂) X.xe s₁) (fun u s' xx => ?_) PassesOwn.looking).run [] s σ H D (I.toTry _) h) (fun f s1 hsp => ?_) (fun e s1 he => he)
  · obtain ⟨a, B, sI, pins', σ', H', cls, d, rfl, J', nb, up, sky, na, os, ag, hb1, hyes⟩ := xx
    have J : Inv X pins σ' H' sI := J'.ofTry ok
    have sky' : Sky B (X.env :: X.outer) a (Zc cls d) X.env.locals s'.heap := by rw [← hs]; exact sky
    show wpAny (model X.prog X.w) X.A (noteFrame (.ref a) X.env) _ _ _
    refine Sky.land Zc.steady hfr hf sky' fun h3 fl3 up3 => ?_
    have J3 : Inv X pins σ' H' { s' with heap := h3 } := J.landed nb fl3.1 (up.trans up3) os ag
    obtain ⟨oe3, vs3, he3, hz3, hd3⟩ := fl3.there
    have notFr : ∀ {h : Heap} {o : Obj} {vs : Array Value}, h.FunFrames B (X.env :: X.outer) → h.get? a = some o → o.data = .fields vs → a ∉ frs (X.env :: X.outer) := fun {h o vs} ff e dd hm => by
      obtain ⟨_, o', e', hnf⟩ := ff.mem hm
      rw [e] at e'; cases e'
      exact hnf _ dd
    have nfr := notFr fl3.2.2.1 he3 hd3
    have nL : a ≠ X.env.locals := fun z => nfr (List.mem_filterMap.mpr ⟨X.env, List.mem_cons_self, by rw [hf, z]⟩)
    have nF : a ∉ X.fs := fun hm => by
      obtain ⟨e, he, q⟩ := List.mem_filterMap.mp hm
      exact nfr (List.mem_filterMap.mpr ⟨e, List.mem_cons_of_mem _ he, q⟩)
    have nI : sI.heap.get? a = none := by
      cases q : sI.heap.get? a with
      | none => rfl
      | some o =>
        have := nb a o q (by rw [hs]; exact nfr)
        rw [fl3.2.1] at this
        cases this
    have n0 : X.s_0.heap.get? a = none := by
      cases q : X.s_0.heap.get? a with
      | none => rfl
      | some o =>
        obtain ⟨o', q'⟩ := J.base.there a o q (by rw [hex]; exact List.not_mem_nil)
        rw [nI] at q'
        cases q'
    have npin : ∀ p ∈ X.pn ++ pins, p.1 ≠ a := fun p hp z => by
      have := (J.pin p hp).1
      rw [z, nI] at this
      cases this
    have S3 := J3.suite he3 hd3 na nL nF
    refine wpAny_handleBy_cons (codeAny_handlers_test ?_) (by intro q; cases q)
    have LT : PySem.W.Looks (model X.prog X.w) h3 (typeOf (.ref a)) cls := fun A Q E s k q => wpAny_typeOf_ref (k _ _ he3) (by rw [hz3.1]; exact q)
    have LM := PySem.W.exm_one (M := model X.prog X.w) (J3.kIn) LT hb1
    have test : ∀ {Q : Value → Shared → Prop} {E : Value → Shared → Prop}, Q c { s' with heap := h3 } → wpAny (model X.prog X.w) (X.A.mark (some (.ref a))) (eval (.Name x np) X.env) Q E { s' with heap := h3 } := fun {Q E} q => by
      obtain ⟨hg, hdbg, hm | ⟨hm, hv, hnn⟩⟩ := hc
      · exact ld_glob (X := X.suite a ((a, oe3) :: (X.pn ++ pins))) S3 hg hm q hdbg
      · exact ld_blt (X := X.suite a ((a, oe3) :: (X.pn ++ pins))) S3 hg hm hv q hnn hdbg
    refine test (LM.here ?_)
    refine codeAny_handlers_suite_as ?_
    refine HandSPX.lands_againZ fl3 fun h4 fl4 up4 => ?_
    have J4 : Inv X pins σ' H' { s' with heap := h4 } := J.landed nb fl4.1 ((up.trans up3).trans up4) os ag
    obtain ⟨oe4, vs4, he4, hz4, hd4⟩ := fl4.there
    have S4 := J4.suite he4 hd4 na nL nF
    refine store_ok (X := X.suite a ((a, oe4) :: (X.pn ++ pins))) (v := .ref a) S4 hN hi hloc rfl (fun s5 S5 => ?_) (.inr hln)
    refine wpAny_mono ((hsu a oe4 cls d (X.pn ++ pins) hz4 ⟨_, hd4⟩).run [] s5 _ H' _ S5 (hyes a na)) (fun f s6 hsp => ?_) (fun _ _ z => False.elim z)
    cases f with
    | next =>
      obtain ⟨σ6, H6, S6, n6, q6⟩ := hsp
      obtain ⟨g6, _⟩ := S6.pin (a, oe4) (List.mem_append.mpr (.inl List.mem_cons_self))
      have I6 := inv_exq (S6.unsuite ok) g6 hz4 hd4 n6 n0 nL npin
      exact gone_ok I6 hN hi hln fun s7 J7 => ⟨_, _, J7, q6⟩
    | brk => exact let ⟨_, _, _, z⟩ := hsp; z.elim
    | cont => exact let ⟨_, _, _, z⟩ := hsp; z.elim
    | ret u => exact let ⟨_, _, _, _, _, z⟩ := hsp; z.elim
  · cases f with
    | next =>
      obtain ⟨σ', H', J', q⟩ := hsp
      exact wpAny_execs_nil ⟨σ', H', J'.ofTry ok, q⟩
    | brk =>
      obtain ⟨σ', H', J', q⟩ := hsp
      exact ⟨σ', H', J'.ofTry ok, q⟩
    | cont =>
      obtain ⟨σ', H', J', q⟩ := hsp
      exact ⟨σ', H', J'.ofTry ok, q⟩
    | ret u =>
      obtain ⟨v, σ', H', J', r, q⟩ := hsp
      exact ⟨v, σ', H', J'.ofTry ok, r, q⟩
end
theorem PSn {X : Cx} {st : Stmt} {t : TS} (h : PS X.nox st t) : PS X st t := ⟨fun pins s σ H D I hw =>
  wpAny_mono (h.run pins s σ H D (I.wish _) hw) (fun _ _ q => q.unwish) fun _ _ z => False.elim z⟩
/-! ## what is known of the classes -/
def excB (K : PySem.W.Frag) (C : Addr) : Bool :=
  decide (PySem.W.findIn K (.ref C) "__getattribute__" = some (some (.builtin "BaseException.__getattribute__"))) && (decide (PySem.W.findIn K (.ref C) "__getattr__" = some none) && (decide (PySem.W.subIn K (.ref C) (.type "BaseException") = some true) && (PySem.W.hasDictIn K C &&
  (decide (PySem.W.findIn K (.ref C) "__class__" = some (some (.builtin "object.__class__"))) && (decide (PySem.W.specialIn K (.builtin "object.__class__") "__get__" = some (some (.builtin "getset_descriptor.__get__"))) && (decide (PySem.W.takesIn K (.builtin "object.__class__") = some true) && decide (PySem.W.mroIn K C (.type "object") = some true)))))))
theorem excB_ok {K : PySem.W.Frag} {C : Addr} (h : excB K C = true) : ExcC K C := by
  obtain ⟨h1, h⟩ := Bool.and_eq_true_iff.mp h
  obtain ⟨h2, h⟩ := Bool.and_eq_true_iff.mp h
  obtain ⟨h3, h⟩ := Bool.and_eq_true_iff.mp h
  obtain ⟨h4, h⟩ := Bool.and_eq_true_iff.mp h
  obtain ⟨h5, h⟩ := Bool.and_eq_true_iff.mp h
  obtain ⟨h6, h⟩ := Bool.and_eq_true_iff.mp h
  obtain ⟨h7, h8⟩ := Bool.and_eq_true_iff.mp h
  exact ⟨of_decide_eq_true h1, of_decide_eq_true h2, of_decide_eq_true h3, h4, of_decide_eq_true h5, of_decide_eq_true h6, of_decide_eq_true h7, of_decide_eq_true h8⟩
/-- a class that is raised with a text -/
def rzB (K : PySem.W.Frag) (C : Addr) : Bool := PySem.W.excIn K C [.type "ValueError", .type "Exception", .type "BaseException", .type "object"] "ValueError.__new__" && (PySem.W.keepIn K (.ref C) && (decide (PySem.W.subIn K (.ref C) (.type "BaseException") = some true) && decide (PySem.W.typeIn K (.ref C) = some (.type "type"))))
/-- is a class under another: all stand under SideError -/
def isa (n c : Str) : Bool := n == c || c == "SideError"
def xkB (K : PySem.W.Frag) (cx : Str → Addr) (ns cs : List Str) : Bool := ns.all fun n => excB K (cx n) && (decide (PySem.W.exmOne K (.ref (cx n)) (.ref (cx "SideError")) = some true) && (decide (PySem.W.kitOne K (.ref (cx n)) (.type "ValueError") = some true) && cs.all fun c => decide (PySem.W.kitOne K (.ref (cx n)) (.ref (cx c)) = some (isa n c))))
structure Xk (K : PySem.W.Frag) (cx : Str → Addr) (ns cs : List Str) : Prop where
  ex : ∀ n ∈ ns, ExcC K (cx n)
  em : ∀ n ∈ ns, PySem.W.exmOne K (.ref (cx n)) (.ref (cx "SideError")) = some true
  ve : ∀ n ∈ ns, PySem.W.kitOne K (.ref (cx n)) (.type "ValueError") = some true
  kt : ∀ n ∈ ns, ∀ c ∈ cs, PySem.W.kitOne K (.ref (cx n)) (.ref (cx c)) = some (isa n c)
theorem xkB_ok {K : PySem.W.Frag} {cx : Str → Addr} {ns cs : List Str} (h : xkB K cx ns cs = true) : Xk K cx ns cs := by
  have h1 := List.all_eq_true.mp h
  refine ⟨fun n hn => excB_ok (Bool.and_eq_true_iff.mp (h1 n hn)).1, fun n hn => ?_, fun n hn => ?_, fun n hn c hc => ?_⟩
  · exact of_decide_eq_true (Bool.and_eq_true_iff.mp (Bool.and_eq_true_iff.mp (h1 n hn)).2).1
  · exact of_decide_eq_true (Bool.and_eq_true_iff.mp (Bool.and_eq_true_iff.mp (Bool.and_eq_true_iff.mp (h1 n hn)).2).2).1
  · exact of_decide_eq_true (List.all_eq_true.mp (Bool.and_eq_true_iff.mp (Bool.and_eq_true_iff.mp (Bool.and_eq_true_iff.mp (h1 n hn)).2).2).2 c hc)
/-! ## raise -/
def tRz (E : XK) (C : Addr) : TS := fun _ _ H => E (.ref C) none H
theorem ps_rz {X : Cx} {E : XK} {x m : Str} {j : Nat} {C : Addr} {p p2 pos pos2 : Pos} (hc : X.calm = true) (tk : Takes X (fun cls d _ H => E cls d H)) (q : rzB X.K C = true) (gC : X.mg x = some (.ref C)) (hg : Gl X x)
    (hdb : (x == ("__debug__" : Str)) = false := by decide) : PS X (.Raise (some (.Call (.Name x p) [.Constant (.str m) j p2] [] pos)) none pos2) (tRz E C) := by
  obtain ⟨q1, q⟩ := Bool.and_eq_true_iff.mp q
  obtain ⟨q2, q⟩ := Bool.and_eq_true_iff.mp q
  obtain ⟨q3, q4⟩ := Bool.and_eq_true_iff.mp q
  exact ps_raise hc tk (pmk_own PySem.F.excBase_ValueError q1 gC q2 (raises_own (of_decide_eq_true q3) (of_decide_eq_true q4)) hg hdb)
/-! ## isinstance of a caught exception -/
def dOk (H : Hp) (d : Option Addr) : Prop := ∀ dd, d = some dd → ∃ fs, H dd = some (.xd fs)
theorem inst_of {X : Cx} {pins : List (Addr × Obj)} {σ : L2.St} {H : Hp} {s : Shared} {a C : Addr} {d : Option Addr} (I : Inv X pins σ H s) (h : H a = some (exq a (.ref C) d)) (hd : dOk H d) : ∃ ox od, PySem.W.InstAt s.heap a ox C od := by
  obtain ⟨⟨oe, vs, h1, h2, h3⟩, _, _⟩ := I.hok a _ h
  cases hdd : d with
  | none =>
    refine ⟨oe, none, h1, h2.1, by unfold PySem.W.notCls; rw [h3], ?_⟩
    rw [h2.2, hdd]
    trivial
  | some dd =>
    obtain ⟨fs, hx⟩ := hd dd hdd
    obtain ⟨mA, ⟨od, es, ep, ho, _⟩, _⟩ := I.hok dd _ hx
    refine ⟨oe, some od, h1, h2.1, by unfold PySem.W.notCls; rw [h3], ?_⟩
    rw [h2.2, hdd]
    exact ho
theorem kitx_of_exc {K : PySem.W.Frag} {C x : Addr} {ox : Obj} {od : Option Obj} (F : ExcC K C) : PySem.W.KitX K (.ref x) (.ref C) (fun h => PySem.W.InstAt h x ox C od) :=
  PySem.W.kitx_exc (by obtain ⟨cd, hc, _⟩ := PySem.W.any_some F.hd; rw [hc]; rfl) F.hg F.hk F.hs F.ha F.hn F.ht F.hm
def rIsX (K : PySem.W.Frag) : List V → Hp → VK → Prop := fun xs H Q => ∃ (a C : Addr) (d : Option Addr) (c : V) (cv : Value) (b : Bool), xs = [.ref a, c] ∧ H a = some (exq a (.ref C) d) ∧ dOk H d ∧ ExcC K C ∧ (∀ u, RelV c u → u = cv) ∧ PySem.W.kitOne K (.ref C) cv = some b ∧ Q (.bl b) H
theorem call_isX {X : Cx} : CallR X (.builtin "isinstance") (rIsX X.K) := by
  intro pins s σ H xs us Q I r h
  obtain ⟨a, C, d, c, cv, b, rfl, ha, hd, F, hcv, e, q⟩ := h
  cases r with
  | cons rx rr =>
    cases rr with
    | cons rt rr =>
      cases rr
      cases rx
      have ec := hcv _ rt
      subst ec
      obtain ⟨ox, od, J⟩ := inst_of I ha hd
      exact PySem.W.kia_one (kitx_of_exc F) I.kIn J e (fun z => nomatch z) fun tk => ⟨.bl b, H, I.kept (t' := tk) fun _ _ z => z, rfl, q⟩
/-- .. of a tuple of classes -/
def rIsXT (K : PySem.W.Frag) : List V → Hp → VK → Prop := fun xs H Q => ∃ (a C t : Addr) (d : Option Addr) (cs : List Addr) (b : Bool), xs = [.ref a, .ref t] ∧ H a = some (exq a (.ref C) d) ∧ dOk H d ∧ ExcC K C ∧ H t = some (.tup (cs.map V.ref)) ∧ PySem.W.kitAny K (.ref C) (cs.map Value.ref) = some b ∧ Q (.bl b) H
theorem vals_refs : ∀ {cs : List Addr} {us : List Value}, Vals (cs.map V.ref) us → us = cs.map Value.ref
  | [], _, h => by cases h; rfl
  | c :: cs, _, h => by
    cases h with
    | cons h1 h2 =>
      cases h1
      rw [vals_refs h2]
      rfl
theorem call_isXT {X : Cx} : CallR X (.builtin "isinstance") (rIsXT X.K) := by
  intro pins s σ H xs us Q I r h
  obtain ⟨a, C, t, d, cs, b, rfl, ha, hd, F, ht, e, q⟩ := h
  cases r with
  | cons rx rr =>
    cases rr with
    | cons rt rr =>
      cases rr
      cases rx
      cases rt
      obtain ⟨ox, od, J⟩ := inst_of I ha hd
      obtain ⟨_, its, rv, o, ho, hc, n, hs⟩ := I.hok t _ ht
      obtain rfl := vals_refs rv
      obtain ⟨oc, odd, oda, osl⟩ := o
      dsimp only at hc hs
      subst hc hs
      exact PySem.W.kia_tup (kitx_of_exc F) I.kIn J ho e (fun z => nomatch z) fun tk => ⟨.bl b, H, I.kept (t' := tk) fun _ _ z => z, rfl, q⟩
/-! # Mirrors of defs that raise, and of those that catch -/
section
variable {ν ν' α β γ ε ρ ι : Type} {M : Mx} {R : ERep ε} {F : Frm} {G G1 H : Hp} {σ : Sg} {D : Ends}
def PostX (K : PySem.W.Frag) (cx : Str → Addr) (F : Frm) (rr : RS V ρ) (Q : VK) (E : XK) : Rs Unit ρ → Prop
  | .ok b _ => ∀ v G' H' H1, IV F G' H' → rr.rel K F G' H' v b H1 → Q v H'
  | .ex c _ => ∀ cls d G' H', IV F G' H' → xr ⟨K, E, cx⟩ G' c cls d → E cls d H'
  | .bad => False
/-- a def that may raise: f its mirror -/
def spX (K : PySem.W.Frag) (cx : Str → Addr) (ra : IR (List V) α) (rr : RS V ρ) (f : α → Rs Unit ρ) : Sp := fun vs H Q E => ∃ G a, (Sub G H ∧ Tps G H) ∧ ra K G H vs a ∧ PostX K cx ⟨G, H, [], fun _ => none, fun _ => none⟩ rr Q E (f a)
def mCallE (f : α → Rs Unit ρ) (m : ε → Rs ε α) : ε → Rs ε ρ := fun e => (m e).bind fun a e1 => match f a with
  | .ok b _ => .ok b e1 | .ex c _ => .ex c e1 | .bad => .bad
theorem x_callE {t : TA} {ra : IR (List V) α} {r : Rep ρ} {f : α → Rs Unit ρ} {m : ε → Rs ε α} (h : EX M R t (is ra) m) : EX M R (tCall (spX M.K M.cx ra (fz r) f) [] M.E t) (fz r) (mCallE f m) := fun F G H σ e i hR Q p =>
  h F G H σ e i hR _ (p.bind is_h fun vs a e1 G1 H1 i1 s1 R1 r1 p1 => by
    rw [List.append_nil]
    refine ⟨G1, a, ⟨i1.gh, i1.tp⟩, r1.1, ?_⟩
    revert p1
    cases f a with
    | ok b u => exact fun p1 v G' H' Hx j hr => p1 v G' H' H' (i1.after j fun _ z => absurd z List.not_mem_nil) j.g0 ⟨hr.1, rfl⟩ (R_after j R1)
    | ex c u => exact fun p1 cls d G' H' j hx => p1 cls d G' H' (i1.after j fun _ z => absurd z List.not_mem_nil) j.g0 (R_after j R1) hx
    | bad => exact id)
theorem x_callEF {t : TA} {ra : IR (List V) α} {q : ORep ρ} {f : α → Rs Unit ρ} {m : ε → Rs ε α} (h : EX M R t (is ra) m) : EX M R (tCall (spX M.K M.cx ra (fs q) f) [] M.E t) (fs q) (mCallE f m) := fun F G H σ e i hR Q p =>
  h F G H σ e i hR _ (p.bind is_h fun vs a e1 G1 H1 i1 s1 R1 r1 p1 => by
    rw [List.append_nil]
    refine ⟨G1, a, ⟨i1.gh, i1.tp⟩, r1.1, ?_⟩
    revert p1
    cases f a with
    | ok b u =>
      rintro p1 v G' H' Hx j ⟨L, ho, rfl, h1, h2, h3, h4, rfl⟩
      refine p1 (.ref L) G' H' (hide H' L) (i1.after j fun _ z => absurd z List.not_mem_nil) j.g0 ⟨L, ho, rfl, h1, h2, own_after i1 h3.1, h4, rfl⟩ (R.mono j.g0 (sub_hide (fun b o h => j.fr b o List.not_mem_nil h) h3.1) (fun b h1 h2 => j.new b h1 h2) R1)
    | ex c u => exact fun p1 cls d G' H' j hx => p1 cls d G' H' (i1.after j fun _ z => absurd z List.not_mem_nil) j.g0 (R_after j R1) hx
    | bad => exact id)
/-- a call of a def that doesn't raise, wherever it stands -/
theorem x_callN {cx : Str → Addr} {E' : XK} {t : TA} {ra : IR (List V) α} {r : Rep ρ} {f : α → Rs Unit ρ} {m : ε → Rs ε α} (h : EX M R t (is ra) m) : EX M R (tCall (spD M.K cx ra (fz r) f) [] E' t) (fz r) (mCall f m) := fun F G H σ e i hR Q p =>
  h F G H σ e i hR _ (p.bind is_h fun vs a e1 G1 H1 i1 s1 R1 r1 p1 => by
    rw [List.append_nil]
    refine ⟨G1, a, ⟨i1.gh, i1.tp⟩, r1.1, ?_⟩
    revert p1
    cases f a with
    | ok b u => exact fun p1 v G' H' Hx j hr => p1 v G' H' H' (i1.after j fun _ z => absurd z List.not_mem_nil) j.g0 ⟨hr.1, rfl⟩ (R_after j R1)
    | ex c u => exact id
    | bad => exact id)
theorem x_callNF {cx : Str → Addr} {E' : XK} {t : TA} {ra : IR (List V) α} {q : ORep ρ} {f : α → Rs Unit ρ} {m : ε → Rs ε α} (h : EX M R t (is ra) m) : EX M R (tCall (spD M.K cx ra (fs q) f) [] E' t) (fs q) (mCall f m) := fun F G H σ e i hR Q p =>
  h F G H σ e i hR _ (p.bind is_h fun vs a e1 G1 H1 i1 s1 R1 r1 p1 => by
    rw [List.append_nil]
    refine ⟨G1, a, ⟨i1.gh, i1.tp⟩, r1.1, ?_⟩
    revert p1
    cases f a with
    | ok b u =>
      rintro p1 v G' H' Hx j ⟨L, ho, rfl, h1, h2, h3, h4, rfl⟩
      refine p1 (.ref L) G' H' (hide H' L) (i1.after j fun _ z => absurd z List.not_mem_nil) j.g0 ⟨L, ho, rfl, h1, h2, own_after i1 h3.1, h4, rfl⟩ (R.mono j.g0 (sub_hide (fun b o h => j.fr b o List.not_mem_nil h) h3.1) (fun b h1 h2 => j.new b h1 h2) R1)
    | ex c u => exact id
    | bad => exact id)
theorem d_X {K : PySem.W.Frag} {cx : Str → Addr} {E : XK} {N : List Str} {vs : List V} {Q : VK} {rr : RS V ρ} {t : TS} {mb : ε → So ε ρ} {ra : IR (List V) α} {e0 : α → ε} {dn : Option ρ} (hs : SX ⟨K, E, cx⟩ R rr t mb)
    (h0 : ∀ G H vs a, Sub G H → ra K G H vs a → R.rel K ⟨G, H, [], fun _ => none, fun _ => none⟩ G H (start N vs) (e0 a)) (hd : ∀ b, dn = some b → ∀ F G H, rr.rel K F G H .non b H) (h : spX K cx ra rr (fun a => (mb (e0 a)).run dn) vs H Q E) :
    t { nx := fun _ H' => Q .non H', rt := Q } (start N vs) H := by
  obtain ⟨G, a, s, hr, p⟩ := h
  have p : PostX K cx ⟨G, H, [], fun _ => none, fun _ => none⟩ rr Q E ((mb (e0 a)).run dn) := p
  refine hs ⟨G, H, [], fun _ => none, fun _ => none⟩ G H _ (e0 a) (.start s) (h0 G H vs a s.1 hr) _ ?_
  cases z : mb (e0 a) with
  | rt b e =>
    rw [z] at p
    exact fun v σ' G' H' H1 i _ hv _ => p v G' H' H1 i hv
  | nx e =>
    rw [z] at p
    cases dn with
    | none => exact False.elim p
    | some b => exact fun σ' G' H' i _ _ => p .non G' H' H' i (hd b rfl _ _ _)
  | ex c e =>
    rw [z] at p
    exact fun cls d σ' G' H' i _ _ hx => p cls d G' H' i hx
  | bk e => rw [z] at p; exact False.elim p
  | ct e => rw [z] at p; exact False.elim p
  | bad => rw [z] at p; exact False.elim p
theorem len_X {K : PySem.W.Frag} {cx : Str → Addr} {ra : IR (List V) α} {rr : RS V ρ} {f : α → Rs Unit ρ} {n : Nat} (h : ALen ra n) : ∀ vs H Q E, spX K cx ra rr f vs H Q E → vs.length = n := fun vs H Q E ⟨G, a, _, hr, _⟩ => h _ _ _ _ _ hr
def mRaise (c : Str) : ε → So ε ρ := fun e => .ex ⟨c, none⟩ e
theorem s_rz {rr : RS V ρ} {c : Str} : SX M R rr (tRz M.E (M.cx c)) (mRaise c) := fun F G H σ e i hR D p => p (.ref (M.cx c)) none σ G H i .refl hR ⟨rfl, rfl⟩
/-! ## what was caught -/
def rX (cx : Str → Addr) : Rep Xc := ⟨fun K G v c => ∃ a d, v = .ref a ∧ G a = some (exq a (.ref (cx c.name)) d) ∧ match c.fld with
  | none => d = none
  | some (f, i) => ∃ dd, d = some dd ∧ G dd = some (.xd [(f, .int i)]), fun {K G G' v c} s ⟨a, d, h1, h2, h3⟩ => ⟨a, d, h1, s _ _ h2, by
    revert h3
    cases c.fld with
    | none => exact id
    | some p => exact fun ⟨dd, h4, h5⟩ => ⟨dd, h4, s _ _ h5⟩⟩⟩
theorem nn_X {cx : Str → Addr} : NN (rX cx) := fun K G v a ⟨L, d, h, _⟩ => by rw [h]; intro z; cases z
theorem rX_d {cx : Str → Addr} {K : PySem.W.Frag} {G H : Hp} {v : V} {c : Xc} (s : Sub G H) (h : (rX cx).rel K G v c) : ∃ a d, v = .ref a ∧ H a = some (exq a (.ref (cx c.name)) d) ∧ dOk H d := by
  obtain ⟨a, d, h1, h2, h3⟩ := h
  refine ⟨a, d, h1, s _ _ h2, fun dd hd => ?_⟩
  revert h3
  cases c.fld with
  | none => exact fun h3 => by have h3 : d = none := h3; rw [h3] at hd; cases hd
  | some p =>
    rintro ⟨d2, h4, h5⟩
    rw [h4] at hd
    cases hd
    exact ⟨_, s _ _ h5⟩
def tTryD (K : PySem.W.Frag) (c : Value) (i j : Nat) (sp : Sp) (ta : TA) : TS := fun D σ H => tDrop (tCallS sp (WE (wK K c i (fun _ _ _ => tAsg (tVar i) (gName j)) D)) ta) D σ H
def mTryD (ns : List Str) (l : Ln ε (Option Xc)) (le : Ln ε β) (mc : ε → Rs ε α) : ε → So ε ρ := fun e => match mc e with
  | .ok _ e1 => .nx e1
  | .ex c e1 => if c.name ∈ ns then .nx (le.put none (l.put (some (some c)) (le.put none e1))) else .bad
  | .bad => .bad
theorem s_tryD {K : PySem.W.Frag} {cx : Str → Addr} {E0' : XK} {rr : RS V ρ} {i j : Nat} {ns cs : List Str} {l : Ln ε (Option Xc)} {le : Ln ε β} {re : Rep β} {sp : Sp} {ta : TA} {r : Rep α} {mc : ε → Rs ε α} (xk : Xk K cx ns cs) (hE : ∀ E, EX ⟨K, E, cx⟩ R (tCall sp [] E ta) (fz r) mc)
    (aty : FrAt R j (rO (rX cx)) l) (ate : FrAt R i re le) (fe : Fg R i le) {cx' : Str → Addr} : SX ⟨K, E0', cx'⟩ R rr (tTryD K (.ref (cx "SideError")) i j sp ta) (mTryD ns l le mc) := fun F G H σ e iv hR D p => by
  have go := hE (WE (wK K (.ref (cx "SideError")) i (fun _ _ _ => tAsg (tVar i) (gName j)) D) σ) F G H σ e iv hR (fun _ H1 => D.nx σ H1)
  have eq : ∀ Q, tCall sp [] (WE (wK K (.ref (cx "SideError")) i (fun _ _ _ => tAsg (tVar i) (gName j)) D) σ) ta σ H Q → tCallS sp (WE (wK K (.ref (cx "SideError")) i (fun _ _ _ => tAsg (tVar i) (gName j)) D)) ta σ H Q := fun Q hq => by
    unfold tCall at hq
    simp only [List.append_nil] at hq
    exact hq
  refine eq _ (go ?_)
  unfold mTryD at p
  revert p
  cases mc e with
  | ok b e1 => exact fun p v G' H' H1 i1 s1 hr R1 => p σ G' H' i1 s1 (hr.2 ▸ R1)
  | bad => exact id
  | ex c e1 =>
    dsimp only
    by_cases hn : c.name ∈ ns
    · rw [if_pos hn]
      rintro p cls d G' H' i1 s1 R1 ⟨rfl, hf⟩
      refine ⟨xk.em _ hn, fun a ha => ⟨.ref a, List.getElem?_set_self (fe.ln R1), ha, ?_⟩⟩
      have st := Stp.new (o := exq a (.ref (cx c.name)) d) i1.gh ha
      have i2 := i1.step st
      have R2 := R.mono st.g st.h st.n R1
      have R3 := fe.st (.ref a) R2
      have hx : (rX cx).rel K (upd G' a (exq a (.ref (cx c.name)) d)) (.ref a) c := by
        refine ⟨a, d, rfl, upd_same, ?_⟩
        obtain ⟨nm, fl⟩ := c
        cases fl with
        | none => exact hf
        | some q =>
          obtain ⟨dd, h4, h5⟩ := hf
          exact ⟨dd, h4, st.g _ _ h5⟩
      have R4 := aty.wr (v := .ref a) (a := some c) R3 ⟨(fun z => (nomatch z)), hx⟩
      exact p _ _ _ i2 (s1.trans st.g) (ate.wn R4)
    · rw [if_neg hn]
      exact fun p => p.elim
/-! ## isinstance -/
def rCls (v : V) : Rep Unit := ⟨fun _ _ w _ => w = v, fun _ h => h⟩
def gIsX (ns : List Str) (c : Str) (p : Xc × Unit) : Option Bool := if p.1.name ∈ ns then some (isa p.1.name c) else none
theorem v_isX {K : PySem.W.Frag} {cx : Str → Addr} {ns cs : List Str} {c : Str} (xk : Xk K cx ns cs) (hc : c ∈ cs) : VR K (rIsX K) (aCons (ir (rX cx)) (aOne (ir (rCls (.ref (cx c)))))) rB (gIsX ns c) := fun G H v a b Q s ⟨x, ws, h0, h1, y, h2, h3⟩ hg k => by
  subst h0 h2
  obtain ⟨hn, rfl⟩ := of_ite hg
  obtain ⟨L, d, rfl, h4, h5⟩ := rX_d s h1
  cases h3
  exact ⟨L, _, d, _, .ref (cx c), _, rfl, h4, h5, xk.ex _ hn, fun u hu => by cases hu; rfl, xk.kt _ hn _ hc, k _ G H (.refl s) rfl⟩
def gIsV (ns : List Str) (p : Xc × Unit) : Option Bool := if p.1.name ∈ ns then some true else none
theorem v_isV {K : PySem.W.Frag} {cx : Str → Addr} {ns cs : List Str} (xk : Xk K cx ns cs) : VR K (rIsX K) (aCons (ir (rX cx)) (aOne (ir (rCls (.ty "ValueError"))))) rB (gIsV ns) := fun G H v a b Q s ⟨x, ws, h0, h1, y, h2, h3⟩ hg k => by
  subst h0 h2
  obtain ⟨hn, rfl⟩ := of_ite hg
  obtain ⟨L, d, rfl, h4, h5⟩ := rX_d s h1
  cases h3
  exact ⟨L, _, d, _, .type "ValueError", _, rfl, h4, h5, xk.ex _ hn, fun u hu => by cases hu; rfl, xk.ve _ hn, k _ G H (.refl s) rfl⟩
/-- a tuple of classes -/
def rClsT (cs : List Addr) : Rep Unit := ⟨fun _ G v _ => ∃ t, v = .ref t ∧ G t = some (.tup (cs.map V.ref)), fun s ⟨t, h1, h2⟩ => ⟨t, h1, s _ _ h2⟩⟩
def tRefs (cs : List Addr) : TA := cs.foldr (fun c t => tCons (tC (.ref c)) t) tNil
theorem tRefs_go {cs : List Addr} {σ : Sg} {H : Hp} : ∀ {Q : List V → Hp → Prop}, Q (cs.map V.ref) H → tRefs cs σ H Q := by
  induction cs with
  | nil => exact fun h => h
  | cons c cs ih => exact fun {Q} h => ih (Q := fun ws H1 => Q (.ref c :: ws) H1) h
theorem x_clsT {cs : List Addr} (hl : cs.length ≤ 100) : EX M R (tTup (tRefs cs)) (fz (rClsT cs)) (mC ()) := fun F G H σ e i hR Q p => by
  refine tRefs_go (Q := fun xs H1 => xs.length ≤ sizeLine ∧ ∀ q, H1 q = none → Q (.ref q) (upd H1 q (.tup xs))) ⟨by rw [List.length_map, sizeLine_eq]; omega, fun q hq => ?_⟩
  have st := Stp.new (o := .tup (cs.map V.ref)) i.gh hq
  exact p (.ref q) _ _ _ (i.step st) st.g ⟨⟨q, rfl, upd_same⟩, rfl⟩ (R.mono st.g st.h st.n hR)
def gIsXT (ns cs : List Str) (p : Xc × Unit) : Option Bool := if p.1.name ∈ ns then some (cs.any fun c => isa p.1.name c) else none
theorem kit_any {K : PySem.W.Frag} {cx : Str → Addr} {ns cs : List Str} (xk : Xk K cx ns cs) {n : Str} (hn : n ∈ ns) : ∀ ds : List Str, (∀ c ∈ ds, c ∈ cs) → PySem.W.kitAny K (.ref (cx n)) ((ds.map cx).map Value.ref) = some (ds.any fun c => isa n c)
  | [], _ => rfl
  | c :: ds, h => by
    have e := xk.kt n hn c (h c List.mem_cons_self)
    have ih := kit_any xk hn ds fun x hx => h x (List.mem_cons_of_mem _ hx)
    simp only [List.map_cons, PySem.W.kitAny, e, List.any_cons]
    cases hz : isa n c with
    | true => rfl
    | false => simpa using ih
theorem v_isXT {K : PySem.W.Frag} {cx : Str → Addr} {ns cs ds : List Str} (xk : Xk K cx ns cs) (hc : ∀ c ∈ ds, c ∈ cs) : VR K (rIsXT K) (aCons (ir (rX cx)) (aOne (ir (rClsT (ds.map cx))))) rB (gIsXT ns ds) := fun G H v a b Q s ⟨x, ws, h0, h1, y, h2, h3⟩ hg k => by
  subst h0 h2
  obtain ⟨hn, rfl⟩ := of_ite hg
  obtain ⟨L, d, rfl, h4, h5⟩ := rX_d s h1
  obtain ⟨t, rfl, h6⟩ := h3
  exact ⟨L, _, t, d, ds.map cx, _, rfl, h4, h5, xk.ex _ hn, s _ _ h6, kit_any xk hn ds hc, k _ G H (.refl s) rfl⟩
end
/-! ## plain reasoning -/
section
variable {ε α β ρ : Type} {e : ε} {N C B : ε → Prop} {T : ρ → ε → Prop}
/-- it comes to an end well, or is refused -/
def RsX (x : Rs ε α) (Q : α → ε → Prop) (X : Xc → Prop) : Prop := match x with
  | .ok a e => Q a e | .ex c _ => X c | .bad => False
theorem RsX.imp {x : Rs ε α} {P Q : α → ε → Prop} {X Y : Xc → Prop} (h : RsX x P X) (k : ∀ a e, P a e → Q a e) (l : ∀ c, X c → Y c) : RsX x Q Y := by
  cases x with
  | ok a e => exact k a e h
  | ex c e => exact l c h
  | bad => exact h
end
/-! ## a call of a def that may raise, in a try -/
structure HasX (P : Program) (w : World) (K : PySem.W.Frag) (mg : Str → Option Value) (base : Heap) (x : Str) (ps : List Str) (k : Nat) (sp : Sp) : Prop where
  ex : ∃ (f : Addr) (fd : FuncData), mg x = some (.ref f) ∧ PySem.W.keepIn K (.ref f) = true ∧ Binds K fd ps [] ∧ FnOk P w K mg base (L2.CX P w) k f fd ps sp
theorem pe_hX {X : Cx} {x : Str} {ps : List Str} {k : Nat} {sp : Sp} {p pos : Pos} {e : Expr} {es : List Expr} {t : TA} {W : WX} (h : HasX X.prog X.w X.K X.mg X.base x ps k sp) (tk : Takes X W) (hr : Room k X.A) (hg : Gl X x) (ha : PA X (e :: es) t) (hdb : (x == ("__debug__" : Str)) = false := by decide)
    (he : starEach (e :: es) X.env = (false, eval e X.env) :: starEach es X.env := by rfl) (hpl : (backTo pos (starEach es X.env)).any (·.1) = false := by rfl) :
    PE X (.Call (.Name x p) (e :: es) [] pos) (tCallS sp (WE W) t) := by
  obtain ⟨f, fd, hm, hk, hb, F⟩ := h.ex
  exact pe_callS F hr hg hm hk hb (fun σ => passAt tk σ) ha hdb he hpl
/-! # Exceptions with a field: raised, made, read -/
section
variable {X : Cx} {e : Expr} {es : List Expr} {ta : TA} {p1 p2 pos : Pos}
/-- what is known of the class whose __init__ is called by its name -/
structure SiC (K : PySem.W.Frag) (C : Addr) : Prop where
  ga : PySem.W.specialIn K (.ref C) "__getattribute__" = some (some (.builtin "type.__getattribute__"))
  rd : PySem.W.readsIn K C (.type "type") = true
  fi : PySem.W.findCls K (.ref C) (.type "type") "__init__" = some (.val (.builtin "ValueError.__init__"))
/-- B.__init__(self, ..), B an own class over ValueError -/
theorem pe_seinit {x : Str} {B : Addr} {pl : Sem Bool} (hg : Gl X x) (hm : X.mg x = some (.ref B)) (S : SiC X.K B) (ha : PA X (e :: es) ta)
    (hdb : (x == ("__debug__" : Str)) = false := by decide)
    (hc : eval (.Call (.Attribute (.Name x p1) "__init__" p2) (e :: es) [] pos) X.env = (do
      let ov ← eval (.Name x p1) X.env
      standAt p2.atName
      let (f, first) ← holding [ov] (getMethod ov "__init__" pl)
      callWith pos f first (backTo pos (starEach (e :: es) X.env)) (backToKw pos (keywordEach [] X.env))) := by rfl)
    (he : starEach (e :: es) X.env = (false, eval e X.env) :: starEach es X.env := by rfl) (hpl : (backTo pos (starEach es X.env)).any (·.1) = false := by rfl) :
    PE X (.Call (.Attribute (.Name x p1) "__init__" p2) (e :: es) [] pos) (tVeI X.K ta) := by
  refine ⟨fun pins s σ H Q I h => ?_⟩
  refine PySem.W.methodCall_KW (ld_glob I hg hm ?_ hdb) hc
  refine PySem.W.method_cls I.kIn S.ga (PySem.W.cls_value I.kIn S.rd S.fi (by decide +kernel) ?_)
  show wpAny _ _ (callWith pos (Value.builtin "ValueError.__init__") [] (backTo pos (starEach (e :: es) X.env)) []) _ _ _
  refine PyProof.Rows.callWith_method1 (thn (ha.run pos pins _ σ H _ (I.tok _) h) fun us s1 ⟨vs, H1, I1, r1, a, C, ws, ev, hl, T, ea, q⟩ => ?_) he hpl
  subst ev
  cases r1 with
  | @cons _ u0 _ ur ra rw' =>
    obtain rfl : u0 = Value.ref a := ra
    have hlen : ur.length ≤ sizeLine := by
      rw [← Paired.length rw', sizeLine_eq]
      omega
    exact oinit_ok T I1 ea hlen fun s' J => ⟨.non, H1, J, rfl, q⟩
end
/-! ## the def __init__(self, f): B.__init__(self, 'text'); self.f = f -/
def spIn (K : PySem.W.Frag) (f : Str) : Sp := fun vs H Q _ => ∃ (a C : Addr) (n : Int), vs = [.ref a, .int n] ∧ OexC K C ∧ PySem.W.findIn K (.ref C) f = some none ∧ H a = some (exo a C none) ∧ ∀ dx, H dx = none → dx ≠ a → Q .non (upd (upd H dx (exd dx [(f, .int n)])) a (exo a C (some dx)))
theorem len_spIn (K : PySem.W.Frag) (f : Str) : ∀ vs H Q E, spIn K f vs H Q E → vs.length = 2 := fun vs H Q E ⟨a, C, n, h, _⟩ => by rw [h]; rfl
def t_init (K : PySem.W.Frag) (f txt : Str) : TS := tSeq (tDrop (tVeI K (tCons (tVar 0) (tCons (tC (.str txt)) tNil)))) (tOst K f (tVar 0) (tVar 1))
theorem rd_init {K : PySem.W.Frag} {f txt : Str} {H : Hp} {vs : List V} {Q : VK} {E : XK} {N : List Str} (h : spIn K f vs H Q E) (hN : N.length = 2 := by rfl) : t_init K f txt { nx := fun _ H' => Q .non H', rt := Q } (start N vs) H := by
  obtain ⟨a, C, n, rfl, T, hf, ha, q⟩ := h
  rw [show start N [V.ref a, V.int n] = [some (V.ref a), some (V.int n)] by simp [L2.start, hN]]
  refine ⟨.ref a, rfl, ?_⟩
  refine ⟨a, C, [.str txt], rfl, by simp, T, ha, ?_⟩
  exact ⟨.int n, rfl, .ref a, rfl, a, C, rfl, T, hf, .inl ⟨ha, q⟩⟩
/-! ## what is known of a class with its own __init__ -/
def oexL (K : PySem.W.Frag) (C : Addr) : Bool := match K.lookup C with
  | some ⟨.type "type", _, .cls cd, sl⟩ => (match cd.mro, sl.toList with
    | .ref C' :: bm, [_, _, _, _, some (.builtin n), _] => C' == C && (n == "ValueError.__new__" && (!cd.hasDel && (cd.hasDict && PySem.HandSPX.refsVE bm)))
    | _, _ => false)
  | _ => false
def oexB (K : PySem.W.Frag) (f : Str) (C : Addr) : Bool := oexL K C && (decide (PySem.W.findIn K (.ref C) "__setattr__" = some (some (.builtin "object.__setattr__"))) && (decide (PySem.W.subIn K (.ref C) (.type "BaseException") = some true) && (decide (PySem.W.typeIn K (.ref C) = some (.type "type")) && (PySem.W.keepIn K (.ref C) &&
  (decide (PySem.W.findIn K (.ref C) f = some none) && xfB K C)))))
theorem oexL_ok {K : PySem.W.Frag} {C : Addr} (q : oexL K C = true) : ∃ nm q N bs bm sn sub ab col dd k0 k1 k2 k3 k5, K.lookup C = some (excClassObj nm q C N bs bm true sn sub ab col dd k0 k1 k2 k3 k5 "ValueError.__new__") ∧ PySem.HandSPX.refsVE bm = true := by
  unfold oexL at q
  split at q
  · rename_i dd cd sl ho
    split at q
    · rename_i C' bm k0 k1 k2 k3 n k5 hm hs
      simp only [Bool.and_eq_true, beq_iff_eq, Bool.not_eq_true'] at q
      obtain ⟨rfl, rfl, hdel, hdc, ht⟩ := q
      obtain ⟨nm, bs, mro, ns, qn, hd, sn, sub, ab, col, del⟩ := cd
      dsimp only at hm hdel hdc
      subst hm hdel hdc
      have hsl : sl = #[k0, k1, k2, k3, some (.builtin "ValueError.__new__"), k5] := by
        obtain ⟨l⟩ := sl
        simp only at hs
        rw [hs]
      subst hsl
      exact ⟨nm, qn, ns, bs, bm, sn, sub, ab, col, dd, k0, k1, k2, k3, k5, ho, ht⟩
    · cases q
  · cases q
structure OexK (K : PySem.W.Frag) (f : Str) (C : Addr) : Prop where
  T : OexC K C
  no : PySem.W.findIn K (.ref C) f = some none
  xf : XfC K C
theorem oexB_ok {K : PySem.W.Frag} {f : Str} {C : Addr} (h : oexB K f C = true) : OexK K f C := by
  obtain ⟨h1, h⟩ := Bool.and_eq_true_iff.mp h
  obtain ⟨h2, h⟩ := Bool.and_eq_true_iff.mp h
  obtain ⟨h3, h⟩ := Bool.and_eq_true_iff.mp h
  obtain ⟨h4, h⟩ := Bool.and_eq_true_iff.mp h
  obtain ⟨h5, h⟩ := Bool.and_eq_true_iff.mp h
  obtain ⟨h6, h7⟩ := Bool.and_eq_true_iff.mp h
  exact ⟨⟨oexL_ok h1, of_decide_eq_true h2, of_decide_eq_true h3, of_decide_eq_true h4, h5⟩, of_decide_eq_true h6, xfB_ok h7⟩
structure HasC (P : Program) (w : World) (K : PySem.W.Frag) (mg : Str → Option Value) (base : Heap) (x f : Str) (C : Addr) : Prop where
  hm : mg x = some (.ref C)
  ok : OexK K f C
  ex : ∃ (fI : Addr) (fd : FuncData), PySem.W.findIn K (.ref C) "__init__" = some (some (.ref fI)) ∧ PySem.W.typeIn K (.ref fI) = some (.type "function") ∧ Binds K fd ["self", f] [] ∧ FnOk P w K mg base CX0 1 fI fd ["self", f] (spIn K f)
section
variable {X : Cx} {e : Expr} {te : TE} {x f : Str} {C : Addr} {p pos pos2 : Pos}
theorem pmk_f (h : HasC X.prog X.w X.K X.mg X.base x f C) (hr : Room 2 X.A) (hg : Gl X x) (ha : PA X [e] (tCons te tNil)) (hdb : (x == ("__debug__" : Str)) = false := by decide)
    (hs : starEach [e] X.env = (false, eval e X.env) :: starEach [] X.env := by rfl) (hpl : (backTo pos (starEach [] X.env)).any (·.1) = false := by rfl) : PMk X (.Call (.Name x p) [e] [] pos) (tMkO C (spIn X.K f) [] (tCons te tNil)) := by
  obtain ⟨fI, fd, iC, tI, hb, F1⟩ := h.ex
  exact pmk_oex (dvs := []) (ds := []) h.ok.T iC tI F1 hr hb .nil pass0 hg h.hm ha hdb hs hpl
/-- raise x(e) -/
def tRzF (K : PySem.W.Frag) (E : XK) (C : Addr) (f : Str) (te : TE) : TS := fun _ σ H => tMkO C (spIn K f) [] (tCons te tNil) σ H fun cls d H' => E cls d H'
theorem ps_rzF {E : XK} (hc : X.calm = true) (tk : Takes X (fun cls d _ H => E cls d H)) (h : HasC X.prog X.w X.K X.mg X.base x f C) (hr : Room 2 X.A) (hg : Gl X x) (ha : PA X [e] (tCons te tNil)) (hdb : (x == ("__debug__" : Str)) = false := by decide)
    (hs : starEach [e] X.env = (false, eval e X.env) :: starEach [] X.env := by rfl) (hpl : (backTo pos (starEach [] X.env)).any (·.1) = false := by rfl) : PS X (.Raise (some (.Call (.Name x p) [e] [] pos)) none pos2) (tRzF X.K E C f te) :=
  ps_raise hc tk (pmk_f h hr hg ha hdb hs hpl)
/-- y.f, y caught ahead -/
def tXk (K : PySem.W.Frag) (f : Str) (te : TE) : TE := fun σ H Q => te σ H fun x H1 => ∃ (a C dd : Addr) (fs : List (Str × V)) (v : V), x = .ref a ∧ OexK K f C ∧ H1 a = some (exq a (.ref C) (some dd)) ∧ H1 dd = some (.xd fs) ∧ fs.lookup f = some v ∧ Q v H1
theorem pe_xk (he : PE X e te) (hb : attributeBase e f X.env (eval e X.env) = eval e X.env := by rfl) : PE X (.Attribute e f pos) (tXk X.K f te) := by
  refine ⟨fun pins s σ H Q I h => ?_⟩
  refine attr_of hb (thn (he.run pins s σ H _ I h) fun u s1 hh => ?_)
  obtain ⟨x, H1, I1, rx, a, C, dd, fs, v, rfl, T, ha, ed, l, q⟩ := hh
  obtain rfl : u = Value.ref a := rx
  obtain ⟨⟨oe, vs, h1, h2, h3⟩, _, _⟩ := I1.hok a _ ha
  have hx : ObjOk X.prog X.w H1 s1.heap dd (.xd fs) := I1.hok dd _ ed
  obtain ⟨mA, hns, hr⟩ := hx
  obtain ⟨od, ho, hl⟩ := lookIn_ns hns
  obtain ⟨u, hu, ru⟩ := RelO.some_of (v := v) (o := mA f) (by rw [← l]; exact hr f)
  have J : PySem.W.InstAt s1.heap a oe C (some od) := ⟨h1, h2.1, by unfold PySem.W.notCls; rw [h3] <;> rfl, by rw [h2.2]; exact ho⟩
  exact PySem.HandSPX.exc_get I1.kIn J T.xf.ga T.xf.gg T.xf.exC (PySem.W.findObj_own T.xf.hdC T.no rfl (by rw [hl, hu])) (handed_of ru) ⟨v, H1, I1.tok _, ru, q⟩
/-- x(e).f -/
def tMkAt (K : PySem.W.Frag) (C : Addr) (f : Str) (te : TE) : TE := fun σ H Q => tMkO C (spIn K f) [] (tCons te tNil) σ H fun cls d H' => ∃ (dd : Addr) (fs : List (Str × V)) (v : V), cls = .ref C ∧ d = some dd ∧ H' dd = some (.xd fs) ∧ fs.lookup f = some v ∧ Q v H'
theorem pe_mkAt (h : HasC X.prog X.w X.K X.mg X.base x f C) (hr : Room 2 X.A) (hg : Gl X x) (ha : PA X [e] (tCons te tNil)) (hdb : (x == ("__debug__" : Str)) = false := by decide)
    (hs : starEach [e] X.env = (false, eval e X.env) :: starEach [] X.env := by rfl) (hpl : (backTo pos (starEach [] X.env)).any (·.1) = false := by rfl)
    (hb : attributeBase (.Call (.Name x p) [e] [] pos) f X.env (eval (.Call (.Name x p) [e] [] pos) X.env) = eval (.Call (.Name x p) [e] [] pos) X.env := by rfl) : PE X (.Attribute (.Call (.Name x p) [e] [] pos) f pos2) (tMkAt X.K C f te) := by
  refine ⟨fun pins s σ H Q I hw => ?_⟩
  refine attr_of hb (wpAny_mono (pmk_f h hr hg ha hdb hs hpl pins s σ H _ I hw) (fun u s1 hm => ?_) fun _ _ z => z)
  obtain ⟨a, oe, vs, sI, H', cls, d, rfl, J, kp, ga, h1, h2, h3, _, hn, ho, hbare, _, dd, fs, v, rfl, rfl, ed, l, q⟩ := hm
  have T := h.ok
  have J' := J.kept (t' := s1.toks) kp
  have I1 : Inv X pins σ H' s1 := ⟨J'.ok, ho.trans J.os, hbare, J'.base, J'.loc, J'.cell, J'.free, J'.freeC, J'.pin, J'.hok, J'.len⟩
  have hx : ObjOk X.prog X.w H' s1.heap dd (.xd fs) := I1.hok dd _ ed
  obtain ⟨mA, hns, hr'⟩ := hx
  obtain ⟨od, ho', hl⟩ := lookIn_ns hns
  obtain ⟨u, hu, ru⟩ := RelO.some_of (v := v) (o := mA f) (by rw [← l]; exact hr' f)
  have JJ : PySem.W.InstAt s1.heap a oe C (some od) := ⟨h1, h2.1, by unfold PySem.W.notCls; rw [h3] <;> rfl, by rw [h2.2]; exact ho'⟩
  exact PySem.HandSPX.exc_get I1.kIn JJ T.xf.ga T.xf.gg T.xf.exC (PySem.W.findObj_own T.xf.hdC T.no rfl (by rw [hl, hu])) (handed_of ru) ⟨v, H', I1.tok _, ru, q⟩
end
section
variable {ε α ρ : Type} {M : Mx} {R : ERep ε}
def mRaiseF (c f : Str) (m : ε → Rs ε Int) : ε → So ε ρ := fun e => match m e with
  | .ok n e1 => .ex ⟨c, some (f, n)⟩ e1 | .ex c' e1 => .ex c' e1 | .bad => .bad
theorem del_upd {H : Hp} {a d : Addr} {o1 o2 o3 o4 : HO} (ha : H a = none) (hd : d ≠ a) : upd (del (upd (upd (upd H a o1) d o2) a o3) a) d o4 = upd H d o4 := by
  funext b
  by_cases h1 : b = d
  · subst h1; rw [upd_same, upd_same]
  · rw [upd_ne h1, upd_ne h1]
    by_cases h2 : b = a
    · subst h2; rw [del_same, ha]
    · rw [del_ne h2, upd_ne h2, upd_ne h1, upd_ne h2]
theorem s_rzF {rr : RS V ρ} {c f : Str} {t : TE} {m : ε → Rs ε Int} (ok : OexK M.K f (M.cx c)) (h : EX M R t (fz rI) m) : SX M R rr (tRzF M.K M.E (M.cx c) f t) (mRaiseF c f m) := fun F G H σ e i hR D p => by
  refine h F G H σ e i hR _ ?_
  unfold mRaiseF at p
  revert p
  cases m e with
  | bad => exact id
  | ex c' e1 => exact fun p cls d G' H' a b c dd => p cls d σ G' H' a b c dd
  | ok n e1 =>
    rintro p v G1 H1 Hx i1 s1 ⟨hv, rfl⟩ R1
    obtain rfl : v = .int n := hv
    refine ⟨by simp, fun a ha => ⟨a, M.cx c, n, rfl, ok.T, ok.no, upd_same, fun dx hdx ne => ⟨rfl, dx, [(f, .int n)], upd_same, ?_, ?_, ?_⟩⟩⟩
    · rw [upd_ne ne, upd_same]
    · rw [upd_ne ne] at hdx
      exact hdx
    · rw [upd_ne ne] at hdx
      rw [del_upd ha ne]
      have st := Stp.new (o := .xd [(f, .int n)]) i1.gh hdx
      exact p _ _ σ _ _ (i1.step st) (s1.trans st.g) (R.mono st.g st.h st.n R1) ⟨rfl, dx, rfl, upd_same⟩
/-- y.f of what was caught -/
def gFld (f : Str) (c : Xc) : Option Int := match c.fld with
  | some (g, n) => if g = f then some n else none
  | none => none
def gFldN (ns : List Str) (f : Str) (c : Xc) : Option Int := if c.name ∈ ns then gFld f c else none
def OexNs (K : PySem.W.Frag) (cx : Str → Addr) (f : Str) (ns : List Str) : Prop := ∀ n ∈ ns, OexK K f (cx n)
theorem x_fld {cx : Str → Addr} {f : Str} {ns : List Str} {t : TE} {m : ε → Rs ε Xc} (ok : OexNs M.K cx f ns) (h : EX M R t (fz (rX cx)) m) : EX M R (tXk M.K f t) (fz rI) (mUn (gFldN ns f) m) := fun F G H σ e i hR Q p =>
  h F G H σ e i hR _ (p.bind fz_h fun v c e1 G1 H1 i1 s1 R1 r1 p1 => by
    have p1 : Post M R F G1 σ (fz rI) Q (.of (gFldN ns f c) e1) := p1
    unfold gFldN at p1
    by_cases hn : c.name ∈ ns
    · rw [if_pos hn] at p1
      obtain ⟨nm, fl⟩ := c
      cases fl with
      | none => exact p1.elim
      | some q =>
        obtain ⟨g, n⟩ := q
        have p2 : Post M R F G1 σ (fz rI) Q (.of (if g = f then some n else none) e1) := p1
        by_cases hg : g = f
        · rw [if_pos hg] at p2
          subst hg
          obtain ⟨a, d, h1, h2, dd, h3, h4⟩ := r1.1
          subst h3
          refine ⟨a, cx nm, dd, [(g, .int n)], .int n, h1, ok nm hn, i1.gh _ _ h2, i1.gh _ _ h4, by simp [List.lookup], ?_⟩
          exact p2 (.int n) G1 H1 H1 i1 .refl ⟨rfl, rfl⟩ R1
        · rw [if_neg hg] at p2
          exact p2.elim
    · rw [if_neg hn] at p1
      exact p1.elim)
/-- x(e).f -/
theorem x_mkAt {C : Addr} {f : Str} {t : TE} {m : ε → Rs ε Int} (ok : OexK M.K f C) (h : EX M R t (fz rI) m) : EX M R (tMkAt M.K C f t) (fz rI) m := fun F G H σ e i hR Q p => by
  refine h F G H σ e i hR _ ?_
  revert p
  cases m e with
  | bad => exact id
  | ex c' e1 => exact id
  | ok n e1 =>
    rintro p v G1 H1 Hx i1 s1 ⟨hv, rfl⟩ R1
    obtain rfl : v = .int n := hv
    refine ⟨by simp, fun a ha => ⟨a, C, n, rfl, ok.T, ok.no, upd_same, fun dx hdx ne => ⟨rfl, dx, [(f, .int n)], upd_same, ?_, ?_, dx, [(f, .int n)], .int n, rfl, rfl, upd_same, by simp [List.lookup], ?_⟩⟩⟩
    · rw [upd_ne ne, upd_same]
    · rw [upd_ne ne] at hdx
      exact hdx
    · rw [upd_ne ne] at hdx
      rw [del_upd ha ne]
      have st := Stp.new (o := .xd [(f, .int n)]) i1.gh hdx
      exact p (.int n) _ _ _ (i1.step st) (s1.trans st.g) ⟨rfl, rfl⟩ (R.mono st.g st.h st.n R1)
/-- xs.append(None), behind which xs is done with -/
def mAppN {α : Type} (l : Ln ε (List α)) : ε → Rs ε Unit := fun e => match l.get e with
  | none => .bad
  | some xs => if xs.length < 1000000 then .ok () (l.put none e) else .bad
theorem x_appN {α : Type} {n : Nat} {own : Frm → Addr → Prop} {l : Ln ε (List α)} {r : Rep α} (oq : OwnQ own) (at' : OwAt R n own (oL r) l) : EX M R (tBM M.K "list" rAppend (tVar n) (tCons (tC .non) tNil)) (fz rN) (mAppN l) := fun F G H σ e i hR Q p => by
  unfold mAppN at p
  cases h0 : l.get e with
  | none => rw [h0] at p; exact p.elim
  | some st =>
    rw [h0] at p
    dsimp only at p
    obtain ⟨L, ho, h1, h4, h5, h6, ⟨vs, rfl, h7⟩, h8⟩ := at'.rd hR h0
    by_cases hz : st.length < 1000000
    · rw [if_pos hz] at p
      refine ⟨_, h1, ty_L _ _ _ _ _ _ h4 ⟨vs, rfl, h7⟩, ?_⟩
      refine ⟨L, vs, .non, rfl, rfl, h4, by rw [A2.length h7, sizeLine_eq]; omega, ?_⟩
      refine p .non G _ _ (i.put oq h4 h5 h6 (fun xs z => by cases z)) .refl ⟨rfl, rfl⟩ (R.mono .refl (fun b o hb => ?_) (fun _ _ z => z) h8)
      obtain ⟨hne, hb⟩ := hide_some hb
      rw [upd_ne hne]
      exact hb
    · rw [if_neg hz] at p
      exact p.elim
theorem rp_appN {α : Type} {l : Ln ε (List α)} {e : ε} {Q : Unit → ε → Prop} : RsP (mAppN l e) Q = OpP (l.get e) fun xs => xs.length < 1000000 ∧ Q () (l.put none e) := by
  unfold mAppN
  cases l.get e with
  | none => rw [RsP_eq, OpP_eq]; rfl
  | some xs =>
    by_cases hz : xs.length < 1000000
    · simp only [hz, if_true, op_some, true_and, rp_ok]
    · simp only [hz, if_false, op_some, false_and, rp_bad]
end
/-! # Things of any kind -/
inductive Th where
  | int (i : Int) | bl (b : Bool) | non | str (s : Str) | lst (xs : List Th) | tup (xs : List Th) | dic (kvs : List (Int × Th)) | dct (kvs : List (List Int × Th))
mutual
def thR (G : Hp) : V → Th → Prop
  | v, .int i => v = .int i
  | v, .bl b => v = .bl b
  | v, .non => v = .non
  | v, .str s => v = .str s
  | v, .lst xs => ∃ L vs, v = .ref L ∧ G L = some (.lst vs) ∧ thRs G vs xs
  | v, .tup xs => ∃ L vs, v = .ref L ∧ G L = some (.tup vs) ∧ thRs G vs xs
  | v, .dic kvs => ∃ L ws, v = .ref L ∧ G L = some (.dK ws) ∧ thRd G ws kvs
  | v, .dct kvs => ∃ L ws, v = .ref L ∧ G L = some (.dT ws) ∧ thRt G ws kvs
def thRs (G : Hp) : List V → List Th → Prop
  | vs, [] => vs = []
  | vs, x :: xs => ∃ v ws, vs = v :: ws ∧ thR G v x ∧ thRs G ws xs
def thRd (G : Hp) : List (Key × V) → List (Int × Th) → Prop
  | vs, [] => vs = []
  | vs, x :: xs => ∃ v ws, vs = (.inl x.1, v) :: ws ∧ thR G v x.2 ∧ thRd G ws xs
def thRt (G : Hp) : List (List Key × V) → List (List Int × Th) → Prop
  | vs, [] => vs = []
  | vs, x :: xs => ∃ v ws, vs = (x.1.map Sum.inl, v) :: ws ∧ thR G v x.2 ∧ thRt G ws xs
end
mutual
theorem thR.mono {G G' : Hp} (s : Sub G G') : ∀ {v : V} {t : Th}, thR G v t → thR G' v t
  | v, .int i, h => by unfold thR at h ⊢; exact h
  | v, .bl b, h => by unfold thR at h ⊢; exact h
  | v, .non, h => by unfold thR at h ⊢; exact h
  | v, .str x, h => by unfold thR at h ⊢; exact h
  | v, .lst xs, h => by
    unfold thR at h ⊢
    obtain ⟨L, vs, h1, h2, h3⟩ := h
    exact ⟨L, vs, h1, s _ _ h2, thRs.mono s h3⟩
  | v, .tup xs, h => by
    unfold thR at h ⊢
    obtain ⟨L, vs, h1, h2, h3⟩ := h
    exact ⟨L, vs, h1, s _ _ h2, thRs.mono s h3⟩
  | v, .dic kvs, h => by
    unfold thR at h ⊢
    obtain ⟨L, vs, h1, h2, h3⟩ := h
    exact ⟨L, vs, h1, s _ _ h2, thRd.mono s h3⟩
  | v, .dct kvs, h => by
    unfold thR at h ⊢
    obtain ⟨L, vs, h1, h2, h3⟩ := h
    exact ⟨L, vs, h1, s _ _ h2, thRt.mono s h3⟩
theorem thRs.mono {G G' : Hp} (s : Sub G G') : ∀ {vs : List V} {ts : List Th}, thRs G vs ts → thRs G' vs ts
  | vs, [], h => by unfold thRs at h ⊢; exact h
  | vs, x :: xs, h => by
    unfold thRs at h ⊢
    obtain ⟨v, ws, h1, h2, h3⟩ := h
    exact ⟨v, ws, h1, thR.mono s h2, thRs.mono s h3⟩
theorem thRd.mono {G G' : Hp} (s : Sub G G') : ∀ {vs : List (Key × V)} {ts : List (Int × Th)}, thRd G vs ts → thRd G' vs ts
  | vs, [], h => by unfold thRd at h ⊢; exact h
  | vs, x :: xs, h => by
    unfold thRd at h ⊢
    obtain ⟨v, ws, h1, h2, h3⟩ := h
    exact ⟨v, ws, h1, thR.mono s h2, thRd.mono s h3⟩
theorem thRt.mono {G G' : Hp} (s : Sub G G') : ∀ {vs : List (List Key × V)} {ts : List (List Int × Th)}, thRt G vs ts → thRt G' vs ts
  | vs, [], h => by unfold thRt at h ⊢; exact h
  | vs, x :: xs, h => by
    unfold thRt at h ⊢
    obtain ⟨v, ws, h1, h2, h3⟩ := h
    exact ⟨v, ws, h1, thR.mono s h2, thRt.mono s h3⟩
end
def rTh : Rep Th := ⟨fun _ G v t => thR G v t, fun s h => thR.mono s h⟩
theorem thRs_a2 {G : Hp} {K : PySem.W.Frag} : ∀ {vs : List V} {ts : List Th}, thRs G vs ts ↔ A2 (rTh.rel K G) vs ts
  | vs, [] => by
    unfold thRs
    exact ⟨fun h => by rw [h]; exact .nil, fun h => by cases h; rfl⟩
  | vs, x :: xs => by
    unfold thRs
    constructor
    · rintro ⟨v, ws, rfl, h2, h3⟩
      exact .cons h2 (thRs_a2.mp h3)
    · intro h
      cases h with
      | cons h1 h2 => exact ⟨_, _, rfl, h1, thRs_a2.mpr h2⟩
/-! ## things made of others -/
section
variable {ε α β : Type} {M : Mx} {R : ERep ε}
/-- a cast between frozen values: f tells the other reading -/
def CastR (r : Rep α) (r' : Rep β) (f : α → Option β) : Prop := ∀ K G v a b, r.rel K G v a → f a = some b → r'.rel K G v b
theorem x_cast {t : TE} {r : Rep α} {r' : Rep β} {f : α → Option β} {m : ε → Rs ε α} (c : CastR r r' f) (h : EX M R t (fz r) m) : EX M R t (fz r') (mUn f m) := fun F G H σ e i hR Q p =>
  h F G H σ e i hR _ (p.bind fz_h fun v a e1 G1 H1 i1 s1 R1 r1 p1 => by
    have p1 : Post M R F G1 σ (fz r') Q (.of (f a) e1) := p1
    cases hf : f a with
    | none => rw [hf] at p1; exact p1.elim
    | some b => rw [hf] at p1; exact p1 v G1 H1 H1 i1 .refl ⟨c _ _ _ _ _ r1.1 hf, rfl⟩ R1)
theorem c_int : CastR rI rTh (fun i => some (.int i)) := fun K G v a b h e => by cases e; exact (show thR G v (.int a) by unfold thR; exact h)
theorem c_bl : CastR rB rTh (fun i => some (.bl i)) := fun K G v a b h e => by cases e; exact (show thR G v (.bl a) by unfold thR; exact h)
theorem c_str : CastR rS rTh (fun i => some (.str i)) := fun K G v a b h e => by cases e; exact (show thR G v (.str a) by unfold thR; exact h)
theorem c_non : CastR rN rTh (fun _ => some .non) := fun K G v a b h e => by cases e; exact (show thR G v .non by unfold thR; exact h)
theorem c_lst : CastR (rz (oL rTh)) rTh (fun xs => some (.lst xs)) := fun K G v a b h e => by
  cases e
  obtain ⟨L, ho, h1, h2, vs, rfl, h3⟩ := h
  exact (show thR G v (.lst a) by unfold thR; exact ⟨L, vs, h1, h2, thRs_a2.mpr h3⟩)
theorem c_tup : CastR (rz (oT rTh)) rTh (fun xs => some (.tup xs)) := fun K G v a b h e => by
  cases e
  obtain ⟨L, ho, h1, h2, vs, rfl, h3⟩ := h
  exact (show thR G v (.tup a) by unfold thR; exact ⟨L, vs, h1, h2, thRs_a2.mpr h3⟩)
theorem thRd_dr {G : Hp} {K : PySem.W.Frag} : ∀ {vs : List (Key × V)} {ts : List (Int × Th)}, thRd G vs ts ↔ DR kInt rTh K G vs ts
  | vs, [] => by
    unfold thRd DR
    exact ⟨fun h => by rw [h]; exact .nil, fun h => by cases h; rfl⟩
  | vs, x :: xs => by
    unfold thRd
    constructor
    · rintro ⟨v, ws, rfl, h2, h3⟩
      exact .cons ⟨rfl, h2⟩ (thRd_dr.mp h3)
    · intro h
      unfold DR at h
      cases h with
      | cons h1 h2 =>
        rename_i p ps
        obtain ⟨k, v⟩ := p
        obtain ⟨e1, e2⟩ := h1
        have e1 : k = .inl x.1 := e1
        subst e1
        exact ⟨v, _, rfl, e2, thRd_dr.mpr h2⟩
theorem c_dic : CastR (rz (oDI rTh)) rTh (fun kvs => some (.dic kvs)) := fun K G v a b h e => by
  cases e
  obtain ⟨L, ho, h1, h2, vs, rfl, h3⟩ := h
  exact (show thR G v (.dic a) by unfold thR; exact ⟨L, vs, h1, h2, thRd_dr.mpr h3⟩)
theorem thRt_dr {G : Hp} {K : PySem.W.Frag} : ∀ {vs : List (List Key × V)} {ts : List (List Int × Th)}, thRt G vs ts ↔ DR kTup rTh K G vs ts
  | vs, [] => by
    unfold thRt DR
    exact ⟨fun h => by rw [h]; exact .nil, fun h => by cases h; rfl⟩
  | vs, x :: xs => by
    unfold thRt
    constructor
    · rintro ⟨v, ws, rfl, h2, h3⟩
      exact .cons ⟨rfl, h2⟩ (thRt_dr.mp h3)
    · intro h
      unfold DR at h
      cases h with
      | cons h1 h2 =>
        rename_i p ps
        obtain ⟨k, v⟩ := p
        obtain ⟨e1, e2⟩ := h1
        have e1 : k = x.1.map Sum.inl := e1
        subst e1
        exact ⟨v, _, rfl, e2, thRt_dr.mpr h2⟩
theorem c_dct : CastR (rz (oD rTh)) rTh (fun kvs => some (.dct kvs)) := fun K G v a b h e => by
  cases e
  obtain ⟨L, ho, h1, h2, vs, rfl, h3⟩ := h
  exact (show thR G v (.dct a) by unfold thR; exact ⟨L, vs, h1, h2, thRt_dr.mpr h3⟩)
/-- casts of the items -/
theorem c_L {r : Rep α} {r' : Rep β} {f : α → β} (c : CastR r r' fun a => some (f a)) : CastR (rz (oL r)) (rz (oL r')) (fun xs => some (xs.map f)) := fun K G v a b h e => by
  cases e
  obtain ⟨L, ho, h1, h2, vs, rfl, h3⟩ := h
  refine ⟨L, _, h1, h2, vs, rfl, ?_⟩
  clear h2
  induction h3 with
  | nil => exact .nil
  | cons h1 _ ih => exact .cons (c _ _ _ _ _ h1 rfl) ih
theorem c_T {r : Rep α} {r' : Rep β} {f : α → β} (c : CastR r r' fun a => some (f a)) : CastR (rz (oT r)) (rz (oT r')) (fun xs => some (xs.map f)) := fun K G v a b h e => by
  cases e
  obtain ⟨L, ho, h1, h2, vs, rfl, h3⟩ := h
  refine ⟨L, _, h1, h2, vs, rfl, ?_⟩
  clear h2
  induction h3 with
  | nil => exact .nil
  | cons h1 _ ih => exact .cons (c _ _ _ _ _ h1 rfl) ih
/-! ## what a thing is -/
def asL : Th → Option (List Th) | .lst xs => some xs | _ => none
def asT : Th → Option (List Th) | .tup xs => some xs | _ => none
def asI : Th → Option Int | .int i => some i | _ => none
theorem c_asL : CastR rTh (rz (oL rTh)) asL := fun K G v a b h e => by
  cases a with
  | lst xs =>
    cases e
    have h : thR G v (.lst b) := h
    unfold thR at h
    obtain ⟨L, vs, h1, h2, h3⟩ := h
    exact ⟨L, _, h1, h2, vs, rfl, thRs_a2.mp h3⟩
  | _ => cases e
theorem c_asT : CastR rTh (rz (oT rTh)) asT := fun K G v a b h e => by
  cases a with
  | tup xs =>
    cases e
    have h : thR G v (.tup b) := h
    unfold thR at h
    obtain ⟨L, vs, h1, h2, h3⟩ := h
    exact ⟨L, _, h1, h2, vs, rfl, thRs_a2.mp h3⟩
  | _ => cases e
theorem c_asI : CastR rTh rI asI := fun K G v a b h e => by
  cases a with
  | int i =>
    cases e
    have h : thR G v (.int b) := h
    unfold thR at h
    exact h
  | _ => cases e
/-- all items, or none -/
def allM (f : α → Option β) : List α → Option (List β)
  | [] => some []
  | x :: xs => (f x).bind fun y => (allM f xs).map (y :: ·)
theorem c_all {r : Rep α} {r' : Rep β} {f : α → Option β} (c : CastR r r' f) {K : PySem.W.Frag} {G : Hp} : ∀ {xs : List α} {ys : List β} {vs : List V}, A2 (r.rel K G) vs xs → allM f xs = some ys → A2 (r'.rel K G) vs ys
  | [], ys, vs, h, e => by cases e; cases h; exact .nil
  | x :: xs, ys, vs, h, e => by
    cases h with
    | cons h1 h2 =>
      unfold allM at e
      cases hx : f x with
      | none => rw [hx] at e; cases e
      | some y =>
        rw [hx] at e
        cases ha : allM f xs with
        | none => rw [ha] at e; cases e
        | some zs =>
          rw [ha] at e
          cases e
          exact .cons (c _ _ _ _ _ h1 hx) (c_all c h2 ha)
theorem c_pL {r : Rep α} {r' : Rep β} {f : α → Option β} (c : CastR r r' f) : CastR (rz (oL r)) (rz (oL r')) (allM f) := fun K G v a b h e => by
  obtain ⟨L, ho, h1, h2, vs, rfl, h3⟩ := h
  exact ⟨L, _, h1, h2, vs, rfl, c_all c h3 e⟩
theorem c_pT {r : Rep α} {r' : Rep β} {f : α → Option β} (c : CastR r r' f) : CastR (rz (oT r)) (rz (oT r')) (allM f) := fun K G v a b h e => by
  obtain ⟨L, ho, h1, h2, vs, rfl, h3⟩ := h
  exact ⟨L, _, h1, h2, vs, rfl, c_all c h3 e⟩
def kindOf : Th → String
  | .int _ => "int" | .bl _ => "bool" | .non => "NoneType" | .str _ => "str" | .lst _ => "list" | .tup _ => "tuple" | .dic _ => "dict" | .dct _ => "dict"
def isK (T k : String) : Bool := k == T || (k == "bool" && T == "int")
def isT (T : String) (t : Th) : Bool := isK T (kindOf t)
def kinds : List String := ["int", "bool", "NoneType", "str", "list", "tuple", "dict"]
theorem kind_mem (t : Th) : kindOf t ∈ kinds := by cases t <;> simp [kindOf, kinds]
theorem th_ty {K : PySem.W.Frag} {G H : Hp} {v : V} {t : Th} (s : Sub G H) (h : thR G v t) : TyX K H v (.type (kindOf t)) := by
  cases t with
  | int i => unfold thR at h; rw [h]; exact .base (.int i)
  | bl b => unfold thR at h; rw [h]; exact .base (.bl b)
  | non => unfold thR at h; rw [h]; exact .base .non
  | str x => unfold thR at h; rw [h]; exact .base (.str x)
  | lst xs => unfold thR at h; obtain ⟨L, vs, h1, h2, h3⟩ := h; rw [h1]; exact .base (.lst (s _ _ h2))
  | tup xs => unfold thR at h; obtain ⟨L, vs, h1, h2, h3⟩ := h; rw [h1]; exact .base (.tup (s _ _ h2))
  | dic xs => unfold thR at h; obtain ⟨L, vs, h1, h2, h3⟩ := h; rw [h1]; exact .base (.dK (s _ _ h2))
  | dct xs => unfold thR at h; obtain ⟨L, vs, h1, h2, h3⟩ := h; rw [h1]; exact .base (.dT (s _ _ h2))
def gIsTh (T : String) (p : Th × Unit) : Option Bool := some (isT T p.1)
theorem v_isTh {K : PySem.W.Frag} {T : String} (hk : ∀ (K : PySem.W.Frag) (t : Th), PySem.W.kitOne K (.type (kindOf t)) (.type T) = some (isT T t)) : VR K (rIsi K) (aCons (ir rTh) (aOne (ir (rTy T)))) rB (gIsTh T) := fun G H v a c Q s ⟨x, ws, h0, h1, y, h2, h3⟩ hg k => by
  cases hg; subst h0 h2
  rw [show y = .ty T from h3]
  exact ⟨x, _, _, _, isT T a.1, rfl, .ty T, th_ty s h1, hk K a.1, k _ G H (.refl s) rfl⟩
theorem k_list (K : PySem.W.Frag) (t : Th) : PySem.W.kitOne K (.type (kindOf t)) (.type "list") = some (isT "list" t) := kit_ty ((by decide +kernel : ∀ k ∈ kinds, kitB k "list" = some (isK "list" k)) _ (kind_mem t))
theorem k_tuple (K : PySem.W.Frag) (t : Th) : PySem.W.kitOne K (.type (kindOf t)) (.type "tuple") = some (isT "tuple" t) := kit_ty ((by decide +kernel : ∀ k ∈ kinds, kitB k "tuple" = some (isK "tuple" k)) _ (kind_mem t))
theorem k_int (K : PySem.W.Frag) (t : Th) : PySem.W.kitOne K (.type (kindOf t)) (.type "int") = some (isT "int" t) := kit_ty ((by decide +kernel : ∀ k ∈ kinds, kitB k "int" = some (isK "int" k)) _ (kind_mem t))
theorem k_bool (K : PySem.W.Frag) (t : Th) : PySem.W.kitOne K (.type (kindOf t)) (.type "bool") = some (isT "bool" t) := kit_ty ((by decide +kernel : ∀ k ∈ kinds, kitB k "bool" = some (isK "bool" k)) _ (kind_mem t))
theorem k_str (K : PySem.W.Frag) (t : Th) : PySem.W.kitOne K (.type (kindOf t)) (.type "str") = some (isT "str" t) := kit_ty ((by decide +kernel : ∀ k ∈ kinds, kitB k "str" = some (isK "str" k)) _ (kind_mem t))
theorem k_dict (K : PySem.W.Frag) (t : Th) : PySem.W.kitOne K (.type (kindOf t)) (.type "dict") = some (isT "dict" t) := kit_ty ((by decide +kernel : ∀ k ∈ kinds, kitB k "dict" = some (isK "dict" k)) _ (kind_mem t))
end
/-! # Lambdas without parameters, handed to a def that calls them in a try -/
open LamX (CodeO TabB LamS lamEnv lamCx)
/-! ## the table of code objects -/
/-- the lambda's code object c' was in the table, or is new -/
def MadeL (P : Addr) (q : Str) (ps : Array Value) (H : Hp) (c' : Addr) (H1 : Hp) : Prop :=
  (H1 = H ∧ ∃ pos : Pos, codeAmong pos ps.toList = some (.ref c')) ∨ (H c' = none ∧ ∃ pos : Pos, H1 = upd (upd H P (.tbl (ps ++ #[rawInt pos.line, rawInt pos.col, .ref c']))) c' (CodeO c' q))
section
variable {X : Cx} {pins : List (Addr × Obj)} {σ : L2.St} {H HZ : Hp} {s s1 : Shared}
theorem lam_mk {c P : Addr} {ps : Array Value} {params : Arguments} {body : Expr} {scope : Scope} {pos : Pos} {E Q : Value → Shared → Prop} (I : Inv X pins σ H s) (TB : TabB X.base X.mg c P) (hcode : X.env.code = .ref c)
    (hP : H P = some (.tbl ps)) (ht : TriplesOk ps.toList) (ha : ∀ pos cv, codeAmong pos ps.toList = some cv → ∃ c, cv = .ref c ∧ H c = some (CodeO c (X.env.qual ++ "<lambda>")))
    (hdef : defaultsOf params X.env = ([], [])) (hfree : ∀ y ∈ scope.names, y.2 = .free → ∃ c, X.env.cells.lookup y.1 = some c)
    (h : ∀ (f c' : Addr) (pm ctv : Value) (H1 : Hp) (s' : Shared), Inv X pins σ H1 s' → MadeL P (X.env.qual ++ "<lambda>") ps H c' H1 →
      s'.heap.get? f = some (PySem.W.kla_obj "<lambda>" (X.env.qual ++ "<lambda>") params body scope (cloFrom X.env.cells scope.names []) pm c' ctv) → H1 f = none ∧ f ∉ frs X.stack → H1 c' = some (CodeO c' (X.env.qual ++ "<lambda>")) → Q (.ref f) s') :
    wpAny (model X.prog X.w) X.A (eval (.Lambda params body scope pos) X.env) Q E s := by
  refine PySem.W.kla_eval hdef ?_
  have tab : s.heap.get? P = some { cls := .none, data := .fields ps } := I.hok P _ hP
  have bm : s.heap.BuiltinsAt X.mg P := TB.bm.keeps I.bk
  have out : ∀ f, s.heap.objs.size ≤ f → f ∉ frs X.stack := fun f hf z => by
    rcases List.mem_cons.mp (I.stkSub _ z) with e | e
    · exact absurd (e ▸ I.lt) (Nat.not_lt.mpr hf)
    · exact I.nofs hf e
  cases hc : codeAmong pos ps.toList with
  | some cv =>
    obtain ⟨c', rfl, hco⟩ := ha pos cv hc
    refine PySem.W.kla_makeFunctionHit (mg := X.mg) (c := c) (P := P) (ps := ps) (closure_ok hfree) I.ok.glob (I.mod.glob.keeps I.bk) hcode (TB.code.keeps I.bk) tab ht hc bm fun ctv h' tk hx hsz => ?_
    exact h h'.objs.size c' _ ctv H _ (I.kept fun b o e => Heap.get?_push_of_some _ (hx b o e)) (.inl ⟨rfl, pos, hc⟩) (Heap.get?_push_size _ rfl) ⟨I.hok.fresh hsz, out _ hsz⟩ hco
  | none =>
    refine PySem.W.kla_makeFunction (mg := X.mg) (c := c) (P := P) (ps := ps) (closure_ok hfree) I.ok.glob (I.mod.glob.keeps I.bk) hcode (TB.code.keeps I.bk) tab ht hc TB.gP bm fun c' ctv h' tk hx hge hlt hrec htb => ?_
    obtain ⟨_, oc, vs, t, e2, hoc, hd, hv⟩ := hrec
    cases e2
    have big : s.heap.objs.size ≤ h'.objs.size := Nat.le_trans hge (Nat.le_of_lt hlt)
    have nC : H c' = none := I.hok.fresh hge
    refine h h'.objs.size c' _ ctv _ _ (LamX.inv_table (t' := tk) (more := #[rawInt pos.line, rawInt pos.col, .ref c']) I hP (fun b o hb e => Heap.get?_push_of_some _ (hx b o hb e)) (Heap.get?_push_of_some _ htb) hge ⟨oc, vs, t, Heap.get?_push_of_some _ hoc, hd, hv⟩)
      (.inr ⟨nC, pos, rfl⟩) (Heap.get?_push_size _ rfl) ⟨?_, out _ big⟩ upd_same
    rw [upd_ne (Nat.ne_of_gt hlt), upd_ne (Nat.ne_of_gt (Nat.lt_of_lt_of_le (Heap.lt_size tab) big))]
    exact I.hok.fresh big
/-- the lambda is called: what it lets out goes where the slots σZ of the caller say -/
abbrev TLm := XK → Hp → VK → Prop
def tAct (i : Nat) (q : Str) (f c' : Addr) (tl : TLm) (E : L2.St → XK) : TE := fun σ H Q => σ[i]? = some (some (.ref f)) ∧ H c' = some (CodeO c' q) ∧ tl (E σ) H Q
theorem pe_actS {Ng : List Str} {qg : Str} {sg : Scope} {g f c' : Addr} {cdg pm ctv : Value} {params : Arguments} {body : Expr} {scope : Scope} {k i : Nat} {a : Str} {pn : List (Addr × Obj)} {xe : Value → Shared → Prop} {W : WX} {tb : XK → TE} {p1 p2 : Pos}
    (I : Inv X pins σ H s) (L : LamS X.env.scope scope) (hf : s.heap.get? f = some (PySem.W.kla_obj "<lambda>" (X.env.qual ++ "<lambda>") params body scope (cloFrom X.env.cells scope.names []) pm c' ctv)) (hfn : H f = none ∧ f ∉ frs X.stack)
    (hbind : bindArgs (PySem.W.kla_fn "<lambda>" (X.env.qual ++ "<lambda>") params body scope (cloFrom X.env.cells scope.names []) pm (.ref c') ctv) ⟨[], []⟩ = pure [])
    (tk : Takes ((cxOf CX0 X.prog X.w X.K X.mg X.base Ng qg sg g cdg X.A X.stack s H E0).tr pn xe) W) (hr : Room (k + 1) (X.A.deeper (envOfC qg sg s.heap.objs.size g cdg)))
    (hbody : ∀ (A : Around) (outer : List Env) (s : Shared) (H : Hp) (E : XK), Room k (A.deeper (lamEnv X scope s.heap.objs.size f c')) → PE (lamCx X A outer s H E scope f c') body (tb E))
    (hN : Ng[i]? = some a) (hv : Vis sg a) (hd : (a == ("__debug__" : Str)) = false) (hcd : (a == ("__classdict__" : Str)) = false) :
    PE ((cxOf CX0 X.prog X.w X.K X.mg X.base Ng qg sg g cdg X.A X.stack s H E0).tr pn xe) (.Call (.Name a p1) [] [] p2) (tAct i (X.env.qual ++ "<lambda>") f c' (fun E HZ Q => tb E σ HZ Q) (WE W)) := by
  refine ⟨fun pZ sZ σZ HZ Q IZ ⟨hs, hc, ht⟩ => ?_⟩
  refine wpAny_Call_Name_kw (thn ((pe_var (pos := p1) (i := i) hN hv hd hcd).run pZ sZ σZ HZ (fun v H1 => v = .ref f ∧ H1 = HZ) IZ ⟨.ref f, hs, rfl, rfl⟩) fun u s1 ⟨v, H1, I1, r1, ev, eH⟩ => ?_)
  subst ev eH
  obtain rfl : u = Value.ref f := r1
  have at1 := I1.base.keep f _ hf hfn.1 hfn.2 (fun z => nomatch (show f ∈ ([] : List Addr) from z))
  refine PySem.W.callWith_F0 ⟨_, _, _, _, at1⟩ ?_
  obtain ⟨⟨oc, vs, t, hoc, hdc, hvc⟩, _, _⟩ := I1.hok c' _ hc
  have rc : codeAny (model X.prog X.w) (X.A.deeper (envOfC qg sg s.heap.objs.size g cdg)) (.call (.ref f) ⟨[], []⟩) (CR (L2.CX X.prog X.w) (envOfC qg sg s.heap.objs.size g cdg :: X.stack) X.prog X.w H1 s1 Q (WE W σZ)) s1 := by
    refine PySem.W.kla_callFunE hr.depth at1 rfl L.co L.gen rfl ⟨c', oc, vs, t, rfl, hoc, hdc, hvc⟩ ?_
    rw [hbind]
    refine wpAny_pure (wpAny_newFunctionEnv (fun y hy => (L.own y hy).2) (fun y hy => absurd hy (by simp)) (fun h₁ hns hsb => ⟨I1.nolimit.fresh _ hsb, ?_⟩) L.kind)
    show codeAny _ _ (.expr body (lamEnv X scope s1.heap.objs.size f c')) _ _
    have J := LamX.lam_start2 (E := WE W σZ) (f := f) (c' := c') (tk := s1.toks + ([] : List (Str × Value)).length) I L I1.env0 hr.hd I1.base hns (fun b o e => hsb.extBut b o (Nat.ne_of_lt (Heap.lt_size e)) (Heap.get?_push_of_some _ e))
    refine PySem.W.kla_codeExpr (wpAny_mono ((hbody _ _ s1 H1 (WE W σZ) (hr.deeper _)).run [] _ _ H1 Q J ht) (fun v s' hq => ?_) fun e s' hq => hq)
    obtain ⟨w', H', J', rv, q⟩ := hq
    exact ⟨w', H', J'.os, J'.bare, J'.base, J'.hok, rv, q⟩
  refine wpAny_call (codeAny_mono rc fun r s' hq => ?_)
  match r, hq with
  | .error e, hq => exact passAt tk σZ pZ H1 s1 e s' I1 hq
  | .ok (.ret u), hq => exact I1.after hq
  | .ok .next, hq => exact False.elim hq
  | .ok .brk, hq => exact False.elim hq
  | .ok .cont, hq => exact False.elim hq
end
/-- what a def makes of the lambda that it gets: its promise TT, of the lambda's name, address, code object and reading -/
abbrev TLT := Str → Addr → Addr → TLm → Hp → VK → Prop
structure GivT (P : Program) (w : World) (K : PySem.W.Frag) (mg : Str → Option Value) (base : Heap) (k : Nat) (x a : Str) (TT : TLT) : Prop where
  ex : ∃ (g : Addr) (pg : Arguments) (bg : List Stmt) (sg : Scope) (dV kV doc pm cdv ct oc : Value) (an od : Option Addr) (osl : Array (Option Value)) (Ng : List Str),
    mg x = some (.ref g) ∧ PySem.W.keepIn K (.ref g) = true ∧ K.lookup g = some ⟨oc, od, .func (PySem.W.fnOf x x pg bg sg dV kV doc pm an cdv ct), osl⟩ ∧ PySem.W.codeIn K cdv x = true ∧ L2.Binds K (PySem.W.fnOf x x pg bg sg dV kV doc pm an cdv ct) [a] [] ∧
    FnScope Ng [a] sg ∧ Ng[0]? = some a ∧ Vis sg a ∧
    ∀ (q : Str) (A : Around) (outer : List Env) (f c' : Addr) (s : Shared) (H : Hp) (Q : VK) (tl : TLm), Room k (A.deeper (envOfC x sg s.heap.objs.size g cdv)) →
      (∀ (W : WX) (pn : List (Addr × Obj)) (xe : Value → Shared → Prop) (p1 p2 : Pos), Takes ((cxOf CX0 P w K mg base Ng x sg g cdv A outer s H E0).tr pn xe) W →
        PE ((cxOf CX0 P w K mg base Ng x sg g cdv A outer s H E0).tr pn xe) (.Call (.Name a p1) [] [] p2) (tAct 0 q f c' tl (WE W))) →
      TT q f c' tl H Q → ∃ t, PSs (cxOf CX0 P w K mg base Ng x sg g cdv A outer s H E0).nox bg t ∧ t { nx := fun _ H' => Q .non H', rt := Q } (L2.start Ng [.ref f]) H
def tLamG (P : Addr) (q : Str) (TT : TLT) (t : XK → TE) : TE := fun σ H Q => ∃ ps, H P = some (.tbl ps) ∧ TriplesOk ps.toList ∧ (∀ pos cv, codeAmong pos ps.toList = some cv → ∃ c, cv = .ref c ∧ H c = some (CodeO c q)) ∧
  ∀ f c' H1, MadeL P q ps H c' H1 → TT q f c' (fun E H' Q' => t E σ H' Q') H1 Q
/-- x(lambda: body) -/
theorem pe_lam {X : Cx} {TT : TLT} {x a : Str} {c P : Addr} {k : Nat} {params : Arguments} {body : Expr} {scope : Scope} {t : XK → TE} {p lpos pos : Pos} (gv : GivT X.prog X.w X.K X.mg X.base (k + 1) x a TT) (hg : Gl X x)
    (TB : TabB X.base X.mg c P) (hcode : X.env.code = .ref c) (hr : Room (k + 2) X.A) (L : LamS X.env.scope scope) (hdef : defaultsOf params X.env = ([], []))
    (hbind : ∀ (q : Str) (cl : List (Str × Addr)) (pm cv ctv : Value), bindArgs (PySem.W.kla_fn "<lambda>" q params body scope cl pm cv ctv) ⟨[], []⟩ = pure [])
    (hbody : ∀ (A : Around) (outer : List Env) (s : Shared) (H : Hp) (E : XK) (f c' : Addr), Room k (A.deeper (lamEnv X scope s.heap.objs.size f c')) → PE (lamCx X A outer s H E scope f c') body (t E))
    (hdb : (x == ("__debug__" : Str)) = false := by decide) (hd : (a == ("__debug__" : Str)) = false := by decide) (hcd : (a == ("__classdict__" : Str)) = false := by decide) :
    PE X (.Call (.Name x p) [.Lambda params body scope lpos] [] pos) (tLamG P (X.env.qual ++ "<lambda>") TT t) := by
  obtain ⟨g, pg, bg, sg, dV, kV, doc, pm, cdv, ct, oc, an, od, osl, Ng, hm, hk, lk, hcg, hb, Sg, hNg, hva, go⟩ := gv.ex
  refine ⟨fun pins s σ H Q I ⟨ps, hP, ht, ha, h⟩ => ?_⟩
  refine wpAny_Call_Name_kw (ld_glob I hg hm ?_ hdb)
  refine PySem.W.callWith_K (h₀ := X.base) I.ok.mod.kin hk ?_ (by rfl) (by rfl)
  show wpAny _ _ (spliced ((false, eval (.Lambda params body scope lpos) X.env) :: backTo pos (starEach [] X.env))) _ _ s
  refine Calls.spliced_cons (lam_mk I TB hcode hP ht ha hdef (L.has I.ok) fun f c' pm' ctv H1 s' I1 hM hf hfn hco => ?_)
  refine Calls.spliced_nil ⟨I1.kIn, ?_⟩
  have rc : codeAny (model X.prog X.w) X.A (.call (.ref g) ⟨[.ref f], []⟩) (CR CX0 X.stack X.prog X.w H1 s' Q E0) s' := by
    refine LamX.run_ofS (N := Ng) (ps := [a]) (us := [.ref f]) (vs := [.ref f]) lk hcg Sg hr I1.env0 (hb s' [.ref f] I1.kIn rfl) (.cons rfl .nil) rfl fun hr' => ?_
    obtain ⟨t', ht', hq'⟩ := go _ X.A X.stack f c' s' H1 Q (fun E H' Q' => t E σ H' Q') hr' (fun W pn xe p1 p2 tk => pe_actS (i := 0) I1 L hf hfn (hbind _ _ _ _ _) tk hr' (fun A outer s H E hr2 => hbody A outer s H E f c' hr2) hNg hva hd hcd) (h f c' H1 hM)
    exact ⟨t', ht'.nox, hq'⟩
  refine wpAny_call (codeAny_mono rc fun r s2 hq => ?_)
  match r, hq with
  | .error e, hq => exact False.elim hq
  | .ok (.ret u), hq => exact I1.after hq
  | .ok .next, hq => exact False.elim hq
  | .ok .brk, hq => exact False.elim hq
  | .ok .cont, hq => exact False.elim hq
/-! # Mirrors of defs that make lambdas, and of those that call them -/
open LamX (CodeO)
/-! ## the table as a thing that a def changes -/
def TabG (P : Addr) (q : Str) (G H : Hp) : Prop := ∃ ps : Array Value, H P = some (.tbl ps) ∧ G P = none ∧ TriplesOk ps.toList ∧ ∀ pos cv, codeAmong pos ps.toList = some cv → ∃ c, cv = .ref c ∧ G c = some (CodeO c q)
def ownT (P : Addr) (F : Frm) : Prop := P ∈ F.ws ∧ F.X P = none ∧ F.Y P = none
theorem TabG.mono {P : Addr} {q : Str} {G G' H H' : Hp} (t : TabG P q G H) (g : Sub G G') (h : Sub H H') (n : ∀ b, H b ≠ none → G' b ≠ none → G b ≠ none) : TabG P q G' H' := by
  obtain ⟨ps, h1, h2, h3, h4⟩ := t
  refine ⟨ps, h _ _ h1, ?_, h3, fun pos cv hc => let ⟨c, e1, e2⟩ := h4 pos cv hc; ⟨c, e1, g _ _ e2⟩⟩
  cases z : G' P with
  | none => rfl
  | some u => exact absurd h2 (n P (by rw [h1]; intro z; cases z) (by rw [z]; intro z; cases z))
theorem TabG.hide {P L : Addr} {q : Str} {G H : Hp} (t : TabG P q G H) (n : P ≠ L) : TabG P q G (hide H L) := by
  obtain ⟨ps, h1, h2, h3, h4⟩ := t
  exact ⟨ps, by rw [hide_ne n]; exact h1, h2, h3, h4⟩
theorem TabG.show {P L : Addr} {q : Str} {G H : Hp} (t : TabG P q G (Ws.hide H L)) : P ≠ L ∧ TabG P q G H := by
  obtain ⟨ps, h1, h2, h3, h4⟩ := t
  exact ⟨(hide_some h1).1, ps, (hide_some h1).2, h2, h3, h4⟩
def eTb {ε : Type} (P : Addr) (q : Str) (R : ERep ε) : ERep ε :=
  ⟨fun K F G H σ e => TabG P q G H ∧ ownT P F ∧ R.rel K F G (hide H P) σ e,
   fun g h n ⟨t, o, r⟩ => ⟨t.mono g h n, o, R.mono g h.hide (fun b hb hn => n b (hide_sub.ne hb) hn) r⟩,
   fun {K F G H σ e D o'} ⟨t, ⟨o1, o2, o3⟩, r⟩ => by
    obtain ⟨n, t'⟩ := t.show
    exact ⟨t', ⟨o1, (upd_ne n).trans o2, o3⟩, R.lock (by rw [hide_comm]; exact r)⟩,
   fun {K F G H σ e D o'} ⟨t, ⟨o1, o2, o3⟩, r⟩ => by
    have n : P ≠ D := fun z => by
      rw [z] at o2
      exact nomatch (show some o' = none from upd_same.symm.trans o2)
    exact ⟨t.hide n, ⟨o1, (upd_ne n).symm.trans o2, o3⟩, by rw [hide_comm]; exact R.unlock r⟩⟩
section
variable {α β ε : Type} {R : ERep ε} {n : Nat} {r : Rep α} {q : ORep α} {own : Frm → Addr → Prop} {l : Ln ε α} {P : Addr} {z : Str}
theorem FrAt.sT (h : FrAt R n r l) : FrAt (eTb P z R) n r l :=
  ⟨fun ⟨_, _, b⟩ e => h.rd b e, fun ⟨t, o, b⟩ e => ⟨t, o, h.wr b e⟩, fun ⟨t, o, b⟩ => ⟨t, o, h.kl b⟩, fun ⟨t, o, b⟩ => ⟨t, o, h.wn b⟩, fun ⟨_, _, b⟩ s ⟨t, o, b'⟩ => ⟨t, o, h.rs b s b'⟩⟩
theorem OwAt.sT (h : OwAt R n own q l) : OwAt (eTb P z R) n own q l := by
  refine ⟨?_, ?_, ?_, fun ⟨t, o, b⟩ => ⟨t, o, h.kl b⟩⟩
  · rintro K F G H σ e a ⟨t, o, b⟩ e1
    obtain ⟨L, ho, h1, h2, h3, h4, h5, h6⟩ := h.rd b e1
    obtain ⟨n1, h2'⟩ := hide_some h2
    exact ⟨L, ho, h1, h2', h3, h4, h5, t.hide n1.symm, o, by rw [hide_comm]; exact h6⟩
  · rintro K F G H σ e L ho a ⟨t, o, b⟩ h1 h2 h3 h4 h5
    obtain ⟨n1, t'⟩ := t.show
    exact ⟨t', o, h.bk (by rw [hide_comm]; exact b) h1 (by rw [hide_ne n1.symm]; exact h2) h3 h4 h5⟩
  · rintro K F G H σ e L ho a ⟨t, o, b⟩ h2 h3 h4 h5
    obtain ⟨n1, t'⟩ := t.show
    exact ⟨t', o, h.wr (by rw [hide_comm]; exact b) (by rw [hide_ne n1.symm]; exact h2) h3 h4 h5⟩
theorem BoAt.sT (h : BoAt R n q l) : BoAt (eTb P z R) n q l := ⟨fun ⟨_, _, b⟩ e => h.rd b e⟩
theorem PrAt.sT (h : PrAt R n q l) : PrAt (eTb P z R) n q l := ⟨fun ⟨_, _, b⟩ e => h.rd b e⟩
theorem Fg.sT (h : Fg R n l) : Fg (eTb P z R) n l := ⟨fun ⟨_, _, b⟩ => h.ln b, fun v ⟨t, o, b⟩ => ⟨t, o, h.st v b⟩⟩
theorem LkR.tb (h : LkR R) : LkR (eTb P z R) := by
  refine ⟨?_, ?_⟩
  · rintro K F G H σ e D o' ⟨t, ⟨o1, o2, o3⟩, b⟩
    obtain ⟨n1, t'⟩ := t.show
    exact ⟨t', ⟨o1, o2, (upd_ne n1).trans o3⟩, h.lk (by rw [hide_comm]; exact b)⟩
  · rintro K F G H σ e D o' ⟨t, ⟨o1, o2, o3⟩, b⟩
    have n : P ≠ D := fun z => by
      rw [z] at o3
      exact nomatch (show some o' = none from upd_same.symm.trans o3)
    exact ⟨t.hide n, ⟨o1, o2, (upd_ne n).symm.trans o3⟩, by rw [hide_comm]; exact h.ul b⟩
theorem Sw.sT {R1 R1' : ERep ε} {q1 : ORep α} (h : Sw R1 R1' n q1 l) : Sw (eTb P z R1) (eTb P z R1') n q1 l := by
  refine ⟨?_, ?_⟩
  · rintro K F G H σ e L ho a ⟨t, ⟨o1, o2, o3⟩, b⟩ hs hq
    obtain ⟨n1, t'⟩ := t.show
    exact ⟨t', ⟨o1, o2, (upd_ne n1).trans o3⟩, h.to (by rw [hide_comm]; exact b) hs hq⟩
  · rintro K F G H σ e L ho ⟨t, ⟨o1, o2, o3⟩, b⟩
    have n : P ≠ L := fun z => by
      rw [z] at o3
      exact nomatch (show some ho = none from upd_same.symm.trans o3)
    exact ⟨t.hide n, ⟨o1, o2, (upd_ne n).symm.trans o3⟩, by rw [hide_comm]; exact h.bk b⟩
end
/-! ## the lambda as a frozen thing: what comes of calling it -/
section
variable {ν ν' α β γ ε ρ ι : Type} {M : Mx} {R : ERep ε} {F : Frm} {G G1 H : Hp} {σ : Sg} {D : Ends}
def LamOK (K : PySem.W.Frag) (cx : Str → Addr) (r : Rep α) (tl : TLm) (G : Hp) (x : Rs Unit α) : Prop := ∀ E G1 H1 Q, Sub G G1 → (Sub G1 H1 ∧ Tps G1 H1) → PostX K cx ⟨G1, H1, [], fun _ => none, fun _ => none⟩ (fz r) Q E x → tl E H1 Q
def rLam (cx : Str → Addr) (r : Rep α) (q : Str) (f c' : Addr) (tl : TLm) : Rep (Rs Unit α) := ⟨fun K G v x => v = .ref f ∧ G c' = some (CodeO c' q) ∧ LamOK K cx r tl G x, fun s ⟨h1, h2, h3⟩ => ⟨h1, s _ _ h2, fun E G1 H1 Q s1 => h3 E G1 H1 Q (s.trans s1)⟩⟩
/-- the names of a def without those that hold what may change -/
structure Wk (R : ERep ε) (kl : ε → ε) : Prop where
  go : ∀ {K F F' G H H' σ e}, R.rel K F G H σ e → R.rel K F' G H' σ (kl e)
theorem Wk.nil : Wk eNil id := ⟨fun h => h⟩
theorem Wk.fr {r : Rep α} {kl : ε → ε} (h : Wk R kl) : Wk (eFr r R) (fun e => (e.1, kl e.2)) := ⟨fun ⟨o, σ', h1, h2, h3⟩ => ⟨o, σ', h1, h2, h.go h3⟩⟩
theorem Wk.ow {own : Frm → Addr → Prop} [op : OwnP own] {q : ORep α} {kl : ε → ε} (h : Wk R kl) : Wk (eOwP own q R) (fun e => (none, kl e.2)) := ⟨fun ⟨o, σ', h1, h2⟩ => ⟨o, σ', h1, .inl ⟨rfl, by
  rcases h2 with ⟨_, b⟩ | ⟨_, _, _, _, _, _, _, _, _, b⟩
  · exact h.go b
  · exact h.go b⟩⟩⟩
theorem Wk.bo {q : ORep α} {kl : ε → ε} (h : Wk R kl) : Wk (eBo q R) (fun e => (none, kl e.2)) := ⟨fun ⟨o, σ', h1, _, h3⟩ => ⟨o, σ', h1, fun _ hx => (nomatch hx), h.go h3⟩⟩
def Rs.out (x : Rs ε α) : Rs Unit α := match x with
  | .ok a _ => .ok a () | .ex c _ => .ex c () | .bad => .bad
@[simp] theorem Rs.out_ok {a : α} {e : ε} : (Rs.ok a e).out = .ok a () := rfl
@[simp] theorem Rs.out_ex {c : Xc} {e : ε} : (Rs.ex c e : Rs ε α).out = .ex c () := rfl
@[simp] theorem Rs.out_bad : (Rs.bad : Rs ε α).out = .bad := rfl
/-- told(lambda: ..): told's mirror of what comes of the lambda -/
def mLam (told : Rs Unit α → Rs Unit β) (kl : ε → ε) (m : ε → Rs ε α) : ε → Rs ε β := fun e => (told (m (kl e)).out).run e
def ttM (K : PySem.W.Frag) (cx : Str → Addr) (r : Rep α) (rr : RS V β) (told : Rs Unit α → Rs Unit β) : TLT := fun q f c' tl H Q => spD K cx0 (aOne (ir (rLam cx r q f c' tl))) rr told [.ref f] H Q E0
theorem made_iv {P c' : Addr} {q : Str} {ps : Array Value} {H1 : Hp} {e : ε} (i : IV F G H) (hR : (eTb P q R).rel M.K F G H σ e) (hP : H P = some (.tbl ps)) (hm : MadeL P q ps H c' H1) :
    ∃ G1, IV F G1 H1 ∧ Sub G G1 ∧ G1 c' = some (CodeO c' q) ∧ (eTb P q R).rel M.K F G1 H1 σ e := by
  obtain ⟨⟨ps', h1, h2, h3, h4⟩, o, r⟩ := hR
  rw [hP] at h1
  cases h1
  rcases hm with ⟨rfl, pos, hc⟩ | ⟨hn, pos, rfl⟩
  · obtain ⟨c, e1, e2⟩ := h4 pos _ hc
    cases e1
    exact ⟨G, i, .refl, e2, ⟨ps, hP, h2, h3, h4⟩, o, r⟩
  · have nP : c' ≠ P := fun z => by rw [z, hP] at hn; cases hn
    have gc : G c' = none := i.gh.no hn
    have hH1 : ∀ b u, b ≠ P → H b = some u → upd (upd H P (.tbl (ps ++ #[rawInt pos.line, rawInt pos.col, .ref c']))) c' (CodeO c' q) b = some u := fun b u hb hu => by rw [upd_ne (ne_of_none hu hn), upd_ne hb]; exact hu
    have hg : Sub G (upd G c' (CodeO c' q)) := sub_upd gc
    have notP : ∀ b u, G b = some u → b ≠ P := fun b u hu z => by rw [z, h2] at hu; cases hu
    have hPP : upd (upd H P (.tbl (ps ++ #[rawInt pos.line, rawInt pos.col, .ref c']))) c' (CodeO c' q) P = some (.tbl (ps ++ #[rawInt pos.line, rawInt pos.col, .ref c'])) := by rw [upd_ne nP.symm, upd_same]
    refine ⟨upd G c' (CodeO c' q), ⟨?_, i.g0.trans hg, fun b hb hn1 => ?_, fun b u hb hu => ?_, fun b hb => ?_, fun b u hu => ?_, fun b hb => ?_, fun b u hu => ?_, fun b hb => ?_, fun b xs hb => ?_⟩, hg, upd_same, ⟨⟨_, hPP, ?_, ?_, ?_⟩, o, ?_⟩⟩
    · intro b u hu
      by_cases hb : b = c'
      · subst hb
        rw [upd_same] at hu ⊢
        exact hu
      · rw [upd_ne hb] at hu
        exact hH1 b u (notP b u hu) (i.gh b u hu)
    · rcases upd_some hn1 with rfl | z
      · exact absurd hn (i.al _ hb)
      · exact i.new b hb z
    · exact hH1 b u (fun z => hb (z ▸ o.1)) (i.fr b u hb hu)
    · by_cases hp : b = P
      · rw [hp, hPP]; intro z; cases z
      · cases z : H b with
        | none => exact absurd z (i.al b hb)
        | some u => rw [hH1 b u hp z]; intro z; cases z
    · exact hH1 b u (fun z => by rw [z, o.2.1] at hu; cases hu) (i.xs b u hu)
    · have : b ≠ c' := fun z => by subst z; exact absurd hn (i.xs.ne hb)
      rw [upd_ne this]
      exact i.xg b hb
    · exact hH1 b u (fun z => by rw [z, o.2.2] at hu; cases hu) (i.ys b u hu)
    · have : b ≠ c' := fun z => by subst z; exact absurd hn (i.ys.ne hb)
      rw [upd_ne this]
      exact i.yg b hb
    · by_cases hc : b = c'
      · subst hc
        rw [upd_same] at hb
        cases hb
      · rw [upd_ne hc] at hb
        by_cases hp : b = P
        · subst hp
          rw [upd_same] at hb
          cases hb
        · rw [upd_ne hp] at hb
          exact hg _ _ (i.tp b xs hb)
    · rw [upd_ne nP.symm]
      exact h2
    · rw [show (ps ++ #[rawInt pos.line, rawInt pos.col, Value.ref c']).toList = ps.toList ++ [rawInt pos.line, rawInt pos.col, .ref c'] by simp]
      exact PySem.TriplesOk_snoc _ _ _ _ h3
    · intro p' cv hcv
      rw [show (ps ++ #[rawInt pos.line, rawInt pos.col, Value.ref c']).toList = ps.toList ++ [rawInt pos.line, rawInt pos.col, .ref c'] by simp] at hcv
      rcases LamX.among_app _ h3 hcv with z | z
      · obtain ⟨c, e1, e2⟩ := h4 p' cv z
        exact ⟨c, e1, hg _ _ e2⟩
      · exact ⟨c', z, upd_same⟩
    · refine R.mono hg (fun b u hb => ?_) (fun b hb hn1 => ?_) r
      · obtain ⟨nb, hb⟩ := hide_some hb
        rw [hide_ne nb]
        exact hH1 b u nb hb
      · rcases upd_some hn1 with rfl | z
        · exact absurd hn (hide_sub.ne hb)
        · exact z
theorem x_lam {P : Addr} {q : Str} {cx : Str → Addr} {t : XK → TE} {r : Rep α} {rt : Rep β} {m : ε → Rs ε α} {kl : ε → ε} {told : Rs Unit α → Rs Unit β} (wk : Wk R kl) (ht : ∀ E, EX ⟨M.K, E, cx⟩ R (t E) (fz r) m) :
    EX M (eTb P q R) (tLamG P q (ttM M.K cx r (fz rt) told) t) (fz rt) (mLam told kl m) := fun F G H σ e i hR Q p => by
  obtain ⟨⟨ps, h1, h2, h3, h4⟩, o, hr⟩ := id hR
  refine ⟨ps, h1, h3, fun pos cv hc => let ⟨c, e1, e2⟩ := h4 pos cv hc; ⟨c, e1, i.gh _ _ e2⟩, fun f c' H1 hm => ?_⟩
  obtain ⟨G1, i1, s1, g1, R1⟩ := made_iv i hR h1 hm
  refine ⟨G1, (m (kl e)).out, ⟨i1.gh, i1.tp⟩, ⟨.ref f, rfl, rfl, g1, fun E G2 H2 Q' s2 st hp => ?_⟩, ?_⟩
  · refine ht E ⟨G2, H2, [], fun _ => none, fun _ => none⟩ G2 H2 σ (kl e) (.start st) ?_ Q' ?_
    · exact R.mono (H := fun _ => none) s2 (fun b u z => nomatch z) (fun b z => absurd rfl z) (wk.go R1.2.2)
    · revert hp
      cases m (kl e) with
      | ok a e1 => exact fun hp v G' H' H1 j _ z _ => hp v G' H' H1 j z
      | ex c e1 => exact fun hp cls d G' H' j _ _ hx => hp cls d G' H' j hx
      | bad => exact id
  · unfold mLam at p
    revert p
    cases told (m (kl e)).out with
    | ok b u => exact fun p v G' H' Hx j z => p v G' H' H' (i1.after j fun _ z => absurd z List.not_mem_nil) (s1.trans j.g0) ⟨z.1, rfl⟩ (R_after j R1)
    | ex c u => exact id
    | bad => exact id
/-! ## try: y = asked() / except SideError as e: z = e -/
def tTryA (K : PySem.W.Frag) (c : Value) (i j jf : Nat) (q : Str) (f c' : Addr) (tl : TLm) : TS := fun D σ H => tAsg (tAct 0 q f c' tl (WE (wK K c i (fun _ _ _ => tAsg (tVar i) (gName j)) D))) (gName jf) D σ H
def mTryA (ns : List Str) (la : Ln ε (Rs Unit α)) (l : Ln ε (Option Xc)) (le : Ln ε γ) (lf : Ln ε β) (g : α → β) : ε → So ε ρ := fun e => match la.get e with
  | some (.ok a _) => .nx (lf.put (some (g a)) e)
  | some (.ex c _) => if c.name ∈ ns then .nx (le.put none (l.put (some (some c)) (le.put none e))) else .bad
  | _ => .bad
theorem s_tryA {K : PySem.W.Frag} {cx cx' : Str → Addr} {E0' : XK} {rr : RS V ρ} {i j jf : Nat} {ns cs : List Str} {q : Str} {f c' : Addr} {tl : TLm} {la : Ln ε (Rs Unit α)} {l : Ln ε (Option Xc)} {le : Ln ε γ} {lf : Ln ε β} {g : α → β} {re : Rep γ} {rf : Rep β} {r : Rep α} (xk : Xk K cx ns cs)
    (ata : FrAt R 0 (rLam cx r q f c' tl) la) (aty : FrAt R j (rO (rX cx)) l) (ate : FrAt R i re le) (fe : Fg R i le) (atf : FrAt R jf rf lf) (hg : ∀ G v a, r.rel K G v a → rf.rel K G v (g a)) :
    SX ⟨K, E0', cx'⟩ R rr (tTryA K (.ref (cx "SideError")) i j jf q f c' tl) (mTryA ns la l le lf g) := fun F G H σ e iv hR D p => by
  unfold mTryA at p
  cases ha : la.get e with
  | none => rw [ha] at p; exact p.elim
  | some x =>
    rw [ha] at p
    obtain ⟨v, h1, rfl, h2, h3⟩ := ata.rd hR ha
    refine ⟨h1, iv.gh _ _ h2, ?_⟩
    refine h3 _ G H _ .refl ⟨iv.gh, iv.tp⟩ ?_
    cases x with
    | bad => exact p.elim
    | ok a u => exact fun v G' H' H1 j z => p _ G' H' (iv.after j fun _ z => absurd z List.not_mem_nil) j.g0 (atf.wr (R_after (M := ⟨K, E0', cx'⟩) j hR) (hg _ _ _ z.1))
    | ex c u =>
      dsimp only at p
      by_cases hn : c.name ∈ ns
      · rw [if_pos hn] at p
        rintro cls d G' H' jv ⟨rfl, hf⟩
        have i1 := iv.after jv fun _ z => absurd z List.not_mem_nil
        have R1 := R_after (M := ⟨K, E0', cx'⟩) jv hR
        refine ⟨xk.em _ hn, fun a ha => ⟨.ref a, List.getElem?_set_self (fe.ln R1), ha, ?_⟩⟩
        have st := Stp.new (o := exq a (.ref (cx c.name)) d) i1.gh ha
        have R3 := fe.st (.ref a) (R.mono st.g st.h st.n R1)
        have hx : (rX cx).rel K (upd G' a (exq a (.ref (cx c.name)) d)) (.ref a) c := by
          refine ⟨a, d, rfl, upd_same, ?_⟩
          obtain ⟨nm, fl⟩ := c
          cases fl with
          | none => exact hf
          | some q =>
            obtain ⟨dd, h4, h5⟩ := hf
            exact ⟨dd, h4, st.g _ _ h5⟩
        exact p _ _ _ (i1.step st) (jv.g0.trans st.g) (ate.wn (aty.wr (v := .ref a) (a := some c) R3 ⟨(fun z => (nomatch z)), hx⟩))
      · rw [if_neg hn] at p
        exact p.elim
/-! ## a def with a table -/
def PostDT (K : PySem.W.Frag) (F : Frm) (P : Addr) (q : Str) (rr : RS V ρ) (Q : VK) : Rs Unit ρ → Prop
  | .ok b _ => ∀ v G' H' H1, IV F G' H' → rr.rel K F G' H' v b H1 → TabG P q G' H1 → Q v H'
  | .ex _ _ => False
  | .bad => False
def spDT (K : PySem.W.Frag) (P : Addr) (z : Str) (ra : IR (List V) α) (rr : RS V ρ) (f : α → Rs Unit ρ) : Sp := fun vs H Q E => ∃ G a, (Sub G H ∧ Tps G H) ∧ TabG P z G H ∧ ra K G (hide H P) vs a ∧ PostDT K ⟨G, H, [P], fun _ => none, fun _ => none⟩ P z rr Q (f a)
theorem len_DT {K : PySem.W.Frag} {P : Addr} {z : Str} {ra : IR (List V) α} {rr : RS V ρ} {f : α → Rs Unit ρ} {n : Nat} (h : ALen ra n) : ∀ vs H Q E, spDT K P z ra rr f vs H Q E → vs.length = n := fun vs H Q E ⟨G, a, _, _, hr, _⟩ => h _ _ _ _ _ hr
theorem d_DT {K : PySem.W.Frag} {P : Addr} {z : Str} {cx : Str → Addr} {E : XK} {N : List Str} {vs : List V} {Q : VK} {rr : RS V ρ} {t : TS} {mb : ε → So ε ρ} {ra : IR (List V) α} {e0 : α → ε} {dn : Option ρ} {E' : XK} (hs : SX ⟨K, E', cx⟩ (eTb P z R) rr t mb)
    (h0 : ∀ G H vs a, Sub G H → ra K G (hide H P) vs a → R.rel K ⟨G, H, [P], fun _ => none, fun _ => none⟩ G (hide H P) (start N vs) (e0 a)) (hd : ∀ b, dn = some b → ∀ F G H, rr.rel K F G H .non b H) (h : spDT K P z ra rr (fun a => (mb (e0 a)).run dn) vs H Q E) :
    t { nx := fun _ H' => Q .non H', rt := Q } (start N vs) H := by
  obtain ⟨G, a, s, tb, hr, p⟩ := h
  have p : PostDT K ⟨G, H, [P], fun _ => none, fun _ => none⟩ P z rr Q ((mb (e0 a)).run dn) := p
  refine hs ⟨G, H, [P], fun _ => none, fun _ => none⟩ G H _ (e0 a) (.start s) ⟨tb, ⟨List.mem_singleton.mpr rfl, rfl, rfl⟩, h0 G H vs a s.1 hr⟩ _ ?_
  cases k : mb (e0 a) with
  | rt b e =>
    rw [k] at p
    exact fun v σ' G' H' H1 i _ hv hR => p v G' H' H1 i hv hR.1
  | nx e =>
    rw [k] at p
    cases dn with
    | none => exact False.elim p
    | some b => exact fun σ' G' H' i _ hR => p .non G' H' H' i (hd b rfl _ _ _) hR.1
  | ex c e => rw [k] at p; exact False.elim p
  | bk e => rw [k] at p; exact False.elim p
  | ct e => rw [k] at p; exact False.elim p
  | bad => rw [k] at p; exact False.elim p
theorem R_afterT {P : Addr} {z : Str} {G H G' H' : Hp} {e : ε} (j : IV ⟨G, H, [P], fun _ => none, fun _ => none⟩ G' H') (tb : TabG P z G' H') (hR : (eTb P z R).rel M.K F G H σ e) : (eTb P z R).rel M.K F G' H' σ e :=
  ⟨tb, hR.2.1, R.mono j.g0 (fun b o hb => by
    obtain ⟨nb, hb⟩ := hide_some hb
    rw [hide_ne nb]
    exact j.fr b o (by simpa using nb) hb) (fun b hb hn => j.new b (hide_sub.ne hb) hn) hR.2.2⟩
/-- a call of such a def, its arguments frozen -/
theorem x_callT {P : Addr} {z : Str} {t : TA} {ga : GR (List V) α} {ra : IR (List V) α} {r : Rep ρ} {f : α → Rs Unit ρ} {m : ε → Rs ε α} (cv : Cv ga ra) (h : EX M (eTb P z R) t (fz ga) m) : EX M (eTb P z R) (tCall (spDT M.K P z ra (fz r) f) [] M.E t) (fz r) (mCall f m) := fun F G H σ e i hR Q p =>
  h F G H σ e i hR _ (p.bind fz_h fun vs a e1 G1 H1 i1 s1 R1 r1 p1 => by
    rw [List.append_nil]
    obtain ⟨tb, o, rr⟩ := id R1
    have gP : G1 P = none := by
      obtain ⟨_, _, h, _⟩ := tb
      exact h
    refine ⟨G1, a, ⟨i1.gh, i1.tp⟩, tb, cv _ _ _ _ _ (sub_hide i1.gh gP) r1.1, ?_⟩
    revert p1
    cases f a with
    | ok b u =>
      rintro p1 v G' H' Hx j ⟨hr, rfl⟩ tb'
      refine p1 v G' _ _ (i1.after j fun p hp => ?_) j.g0 ⟨hr, rfl⟩ (R_afterT j tb' R1)
      obtain rfl := List.mem_singleton.mp hp
      obtain ⟨_, _, h, _⟩ := tb'
      exact ⟨.inr o.1, o.2.1, o.2.2, h⟩
    | ex c u => exact id
    | bad => exact id)
end
/-! # Values of two kinds; repr of whatever has no dict in it -/
open PySem.W (tabObj)
/-! ## repr -/
def rReprA (K : PySem.W.Frag) : List V → Hp → VK → Prop := fun xs H Q => ∃ (v : V) (d : PyData), xs = [v] ∧ Dp K H v d ∧ d.depth ≤ 60 ∧ small 80 d = true ∧ cost 80 d ≤ 16777216 ∧ Q (.str d.shown) H
theorem call_reprA {X : Cx} (hg : X.A.guards = some []) (hu : X.A.units + 64 < cLine) : CallR X (.builtin "repr") (rReprA X.K) := by
  intro pins s σ H vs us Q I r h
  obtain ⟨v, d, rfl, hd, hz, hs, hc, q⟩ := h
  cases r with
  | cons r1 r2 =>
    cases r2
    cases hd with
    | non => cases r1; exact PySem.P.repr_of_none ⟨.str "None", H, I.tok _, ⟨_, rfl⟩, q⟩
    | bl b =>
      cases r1
      cases b with
      | true => exact PySem.P.repr_of_bool ⟨.str (PyData.shown (.bool true)), H, I.tok _, ⟨_, rfl⟩, q⟩
      | false => exact PySem.P.repr_of_bool ⟨.str (PyData.shown (.bool false)), H, I.tok _, ⟨_, rfl⟩, q⟩
    | int i =>
      obtain ⟨t, rfl⟩ := r1
      have h' : i.natAbs < 10 ^ 80 := by simpa [small] using hs
      exact PySem.P.repr_of_int (log_small (by decide) h') ⟨.str (PyData.shown (.int i)), H, I.tok _, ⟨_, rfl⟩, q⟩
    | str x =>
      obtain ⟨t, rfl⟩ := r1
      refine PySem.P.repr_of_str ⟨.str (PyData.shown (.str x)), H, I.tok _, ⟨_, rfl⟩, q⟩ ?_
      rw [sizeLine_eq]
      exact hc
    | lst a b => exact call_reprD hg hu pins s σ H _ _ Q I (.cons r1 .nil) ⟨_, _, 80, rfl, .lst a b, hz, by decide, hs, by rw [sizeLine_eq]; exact hc, q⟩
    | tup a b => exact call_reprD hg hu pins s σ H _ _ Q I (.cons r1 .nil) ⟨_, _, 80, rfl, .tup a b, hz, by decide, hs, by rw [sizeLine_eq]; exact hc, q⟩
section
variable {K : PySem.W.Frag} {α β γ ε ρ : Type} {w : World} {P : Program}
/-- data that is only shown -/
structure Er (α : Type) where
  enc : α → PyData
  dn : Nat
  dep : ∀ a, (enc a).depth ≤ dn
def En.er (E : En α) : Er α := ⟨E.enc, E.dn, E.dep⟩
def Daa (i : IR V α) (E : Er α) : Prop := ∀ K G H v a, Sub G H → i K G H v a → Dp K H v (E.enc a)
theorem Da.er {i : IR V α} {E : En α} (d : Da i E) : Daa i E.er := d
def gReprE (E : Er α) (a : α) : Option Str := if rpOk (E.enc a) = true then some (E.enc a).shown else none
theorem v_reprE {i : IR V α} {E : Er α} (d : Daa i E) (hn : E.dn ≤ 60) : VR K (rReprA K) (aOne i) rS (gReprE E) := fun G H v a b Q s ⟨x, h0, h1⟩ hg k => by
  subst h0
  obtain ⟨hz, rfl⟩ := of_ite hg
  simp only [rpOk, Bool.and_eq_true, decide_eq_true_eq] at hz
  exact ⟨x, _, rfl, d _ _ _ _ _ s h1, Nat.le_trans (E.dep a) hn, hz.1, hz.2, k _ G H (.refl s) rfl⟩
def erS : Er Str := ⟨.str, 0, fun _ => by simp [PyData.depth]⟩
theorem daa_S : Daa (ir rS) erS := fun K G H v a s h => by cases h; exact .str a
def erSum (E : Er α) (E' : Er β) : Er (α ⊕ β) := ⟨fun x => match x with | .inl a => E.enc a | .inr b => E'.enc b, max E.dn E'.dn, fun x => by
    cases x with
    | inl a => exact Nat.le_trans (E.dep a) (Nat.le_max_left _ _)
    | inr b => exact Nat.le_trans (E'.dep b) (Nat.le_max_right _ _)⟩
theorem daa_Sum {r : Rep α} {r' : Rep β} {E : Er α} {E' : Er β} (d : Daa (ir r) E) (d' : Daa (ir r') E') : Daa (ir (rSum r r')) (erSum E E') := fun K G H v x s h => by
  cases x with
  | inl a => exact d _ _ _ _ _ s h
  | inr b => exact d' _ _ _ _ _ s h
/-! ## a value of two kinds, the second a text, against a written text -/
def gNeW (t : Str) (x : α ⊕ Str) (u : Str) : Option Bool := match x with
  | .inl _ => if u = t ∧ PyData.strOk t = true then some true else none
  | .inr s => if u = t ∧ PyData.strOk t = true ∧ PyData.strOk s = true then some (decide (s ≠ t)) else none
/-- data that is no text -/
def EnNS (E : En α) : Prop := ∀ a t, PyData.eqv (E.enc a) (.str t) = false
theorem ns_T {E : En α} : EnNS (enT E) := fun a t => by simp [enT, PyData.eqv]
theorem ns_L {E : En α} : EnNS (enL E) := fun a t => by simp [enL, PyData.eqv]
theorem ns_O {E : En α} (h : EnNS E) : EnNS (enO E) := fun a t => by
  cases a with
  | none => simp [enO, PyData.eqv]
  | some x => exact h x t
theorem str_shaped {t : Str} (h : PyData.strOk t = true) : SeqAt.shaped (.str t) = true := by
  unfold SeqAt.shaped
  simp [PyData.canLay0, h, PyData.depth]
theorem v_neW {r : Rep α} {E : En α} {t : Str} (d : Da (ir r) E) (hn : E.dn ≤ 60) (n : EnNS E) : VR2 K (rNeD K) (ir (rSum r rS)) (ir rS) rB (gNeW t) := fun G H v w a b c Q s h1 h2 hg k => by
  cases h2
  cases a with
  | inl a =>
    obtain ⟨⟨rfl, hb⟩, rfl⟩ := of_ite hg
    refine ⟨_, _, d _ _ _ _ _ s h1, .str _, E.shaped hn a, str_shaped hb, ?_⟩
    rw [n]
    exact k _ G H (.refl s) rfl
  | inr x =>
    obtain ⟨⟨rfl, hb, hx⟩, rfl⟩ := of_ite hg
    cases h1
    refine ⟨_, _, .str _, .str _, str_shaped hx, str_shaped hb, ?_⟩
    refine k _ G H (.refl s) ?_
    simp only [PyData.eqv]
    by_cases e : x = b <;> simp [e, rB]
/-! ## casts -/
def toL (a : α) : Option (α ⊕ β) := some (.inl a)
def toR (b : β) : Option (α ⊕ β) := some (.inr b)
def ofL : α ⊕ β → Option α | .inl a => some a | .inr _ => none
def ofR : α ⊕ β → Option β | .inr a => some a | .inl _ => none
theorem c_toL {r : Rep α} {r' : Rep β} : CastR r (rSum r r') toL := fun K G v a b h e => by cases e; exact h
theorem c_toR {r : Rep α} {r' : Rep β} : CastR r' (rSum r r') toR := fun K G v a b h e => by cases e; exact h
theorem c_ofL {r : Rep α} {r' : Rep β} : CastR (rSum r r') r ofL := fun K G v a b h e => by
  cases a with
  | inl a => cases e; exact h
  | inr a => cases e
theorem c_ofR {r : Rep α} {r' : Rep β} : CastR (rSum r r') r' ofR := fun K G v a b h e => by
  cases a with
  | inl a => cases e
  | inr a => cases e; exact h
/-! ## isinstance -/
def gIsS (b c : Bool) (p : (α ⊕ β) × Unit) : Option Bool := some (match p.1 with | .inl _ => b | .inr _ => c)
theorem v_isiS {r : Rep α} {r' : Rep β} {t t' T : String} {b c : Bool} (kd : Kd (ir r) t) (kd' : Kd (ir r') t') (hk : ∀ K, PySem.W.kitOne K (.type t) (.type T) = some b) (hk' : ∀ K, PySem.W.kitOne K (.type t') (.type T) = some c) :
    VR K (rIsi K) (aCons (ir (rSum r r')) (aOne (ir (rTy T)))) rB (gIsS b c) := fun G H v a d Q s ⟨x, ws, h0, h1, y⟩ hg k => by
  obtain ⟨a1, u⟩ := a
  cases a1 with
  | inl a => exact v_isi kd hk G H v (a, u) d Q s ⟨x, ws, h0, h1, y⟩ hg k
  | inr a => exact v_isi kd' hk' G H v (a, u) d Q s ⟨x, ws, h0, h1, y⟩ hg k
/-- the same where the first side may be None -/
theorem v_isiSO {r : Rep α} {r' : Rep β} {t t' T : String} {c : Bool} (kd : Kd (ir r) t) (kd' : Kd (ir r') t') (hk : ∀ K, PySem.W.kitOne K (.type t) (.type T) = some false) (hn : ∀ K, PySem.W.kitOne K (.type "NoneType") (.type T) = some false) (hk' : ∀ K, PySem.W.kitOne K (.type t') (.type T) = some c) :
    VR K (rIsi K) (aCons (ir (rSum (rO r) r')) (aOne (ir (rTy T)))) rB (gIsS false c) := fun G H v a d Q s ⟨x, ws, h0, h1, y⟩ hg k => by
  obtain ⟨a1, u⟩ := a
  cases a1 with
  | inl a => exact v_isiO kd hk hn G H v (a, u) d Q s ⟨x, ws, h0, h1, y⟩ hg k
  | inr a => exact v_isi kd' hk' G H v (a, u) d Q s ⟨x, ws, h0, h1, y⟩ hg k
/-! ## [a, b][i] of unlike kinds -/
def gPick (p : α × β) (i : Int) : Option (α ⊕ β) := if i = 0 then some (.inl p.1) else if i = 1 then some (.inr p.2) else none
theorem v_pick {r : Rep α} {r' : Rep β} : VR2 K (rIxL K) (rd (oL2 r r')) (ir rI) (rSum r r') gPick := fun G H v w a b c Q s hv hi hg k => by
  unfold gPick at hg
  by_cases h0 : b = 0
  · rw [if_pos h0] at hg
    cases hg
    exact v_l20 G H v w a b _ Q s hv hi (by subst h0; rfl) fun v' G' H' st hr => k v' G' H' st hr
  · rw [if_neg h0] at hg
    by_cases h1 : b = 1
    · rw [if_pos h1] at hg
      cases hg
      exact v_l21 G H v w a b _ Q s hv hi (by subst h1; rfl) fun v' G' H' st hr => k v' G' H' st hr
    · rw [if_neg h1] at hg
      cases hg
end
/-! ## the end of a law row, with tables of code objects -/
theorem endT {P : Program} {w : World} {K : PySem.W.Frag} {mg mb : Str → Option Value} {k : Nat} {fa a : Addr} {cs : List (Addr × Addr)} {fd : FuncData} {x : Str} {sp : Sp} {s₁ : Shared} {vs : List Value} {H : Hp}
    (KX : K.In s₁.heap) (hns : s₁.heap.Ns mainGlobals mg) (hb : s₁.heap.Ns builtinsNs mb) (hbb : ∀ x : Str, x ≠ "__name__" → mb x = bootBuiltins x) (hlim : s₁.heap.NoLimit) (hg : s₁.gens = #[])
    (hbm : ∃ (bm : Addr) (ob : Obj), mg "__builtins__" = some (.ref bm) ∧ bm ≠ builtinsNs ∧ s₁.heap.get? bm = some ob ∧ ob.cls = .type "module" ∧ ob.dict = some builtinsNs ∧ ob.data = .plain)
    (hC : ∀ p ∈ cs, PySem.W.CodeHd s₁.heap p.1 p.2 ∧ s₁.heap.get? p.2 = some (tabObj #[]) ∧ K.lookup p.2 = none)
    (ha : s₁.heap.get? a = some { cls := .type "list", data := .seq vs.toArray }) (hr : Room k callerA)
    (F : ∀ base : Heap, K.In base → base.Ns mainGlobals mg → (∀ p ∈ cs, LamX.TabB base mg p.1 p.2) → FnG P w K mg base k fa fd [x] sp) (hbind : ∀ (s : Shared) (u : Value), BindsTo s fd ⟨[u], []⟩ [(x, u)])
    (hsp : sp [.ref a] H (fun v _ => v = .bl true) fun _ _ _ => False) (hok : HOk P w H s₁.heap)
    (hH : ∀ b u, H b = some u → (b = a ∧ K.lookup a = none ∧ ∃ o v, u = .frz o v) ∨ (∃ p ∈ cs, b = p.2 ∧ u = .tbl #[])) :
    codeAny (model P w) callerA (.call (.ref fa) ⟨[.ref a], []⟩) (fun r s' => r = .ok (.ret (.bool true)) ∧ OldK s₁.heap s'.heap ∧ s'.os = s₁.os ∧ AllBare s'.gens) s₁ := by
  have free : ∀ {b : Addr} {o : Obj}, s₁.heap.get? b = some o → (∀ xs n, o.data ≠ .seq xs n) → o.data ≠ .fields #[] → H b = none := fun {b o} e d d' => by
    cases q : H b with
    | none => rfl
    | some u =>
      rcases hH b u q with ⟨rfl, _⟩ | ⟨p, hp, rfl, _⟩
      · rw [ha] at e
        cases e
        exact absurd rfl (d _ _)
      · rw [(hC p hp).2.1] at e
        cases e
        exact absurd rfl d'
  have ns : ∀ {b : Addr} {m : Str → Option Value}, s₁.heap.Ns b m → (hidT s₁.heap H).Ns b m := fun {b m} z => by
    obtain ⟨o, es, ep, e, d, r⟩ := z
    exact ⟨o, es, ep, hidT_get e (free e (fun _ _ z => by rw [d] at z; cases z) fun z => by rw [d] at z; cases z), d, r⟩
  have kin : K.In (hidT s₁.heap H) := fun b o e => hidT_get (KX b o e) (by
    cases q : H b with
    | none => rfl
    | some u =>
      rcases hH b u q with ⟨rfl, h2, _⟩ | ⟨p, hp, rfl, _⟩
      · rw [h2] at e; cases e
      · rw [(hC p hp).2.2] at e; cases e)
  have lim : (hidT s₁.heap H).NoLimit := by
    obtain ⟨mc, h1, h2⟩ := hlim
    exact ⟨mc, ns h1, h2⟩
  have tb : ∀ p ∈ cs, LamX.TabB (hidT s₁.heap H) mg p.1 p.2 := fun p hp => by
    obtain ⟨C, T, _⟩ := hC p hp
    refine ⟨?_, ?_, fun z => ?_⟩
    · obtain ⟨o, us, file, tf, flags, tg, inF, text, tt, e1, r1, r2, r3, rest⟩ := C
      refine ⟨o, us, file, tf, flags, tg, inF, text, tt, hidT_get e1 (free e1 (fun vs n z => ?_) fun z => ?_), r1, r2, r3, rest⟩
      · rw [r2] at z; cases z
      · rw [r2] at z; cases z; simp at r3
    · obtain ⟨bm, ob, b1, b2, b3, b4, b5, b6⟩ := hbm
      refine ⟨bm, ob, b1, b2, fun q => ?_, fun q => ?_, hidT_get b3 (free b3 (fun vs n z => ?_) fun z => ?_), b4, b5, b6⟩
      · obtain ⟨o, es, ep, e, hd, _⟩ := hns
        rw [q, e] at b3; cases b3
        rw [hd] at b6; cases b6
      · rw [q, T] at b3; cases b3; cases b6
      · rw [b6] at z; cases z
      · rw [b6] at z; cases z
    · obtain ⟨o, es, ep, e, hd, _⟩ := hns
      rw [z, T] at e; cases e; cases hd
  have e0 : Env0 P w K mg (hidT s₁.heap H) callerA [] s₁ H := ⟨rfl, ⟨kin, ns hns, ⟨mb, ns hb, hbb⟩, lim⟩, fun b o e => of_hidT e, Nat.le_of_eq (hidT_size _ _), trivial, fun b z => (List.not_mem_nil (show b ∈ ([] : List Addr) from z)).elim, hok, .of_eq hg⟩
  refine codeAny_mono ((F _ kin (ns hns) tb).run callerA [] s₁ H ⟨[.ref a], []⟩ [.ref a] [.ref a] _ _ rfl hr e0 (hbind s₁ (.ref a)) (.cons rfl .nil) hsp) fun r s' h => ?_
  match r, h with
  | .error _, z => exact False.elim z
  | .ok .next, z => exact False.elim z
  | .ok .brk, z => exact False.elim z
  | .ok .cont, z => exact False.elim z
  | .ok (.ret u), ⟨v, H', os, bare, un, hok', rv, q⟩ =>
    obtain rfl : v = .bl true := q
    obtain rfl : u = Value.bool true := rv
    have key : ∀ b o, s₁.heap.get? b = some o → (s'.heap.get? b = some o) ∨ ∃ p ∈ cs, b = p.2 ∧ o = tabObj #[] ∧ ∃ more : Array Value, s'.heap.get? b = some (tabObj more) := fun b o e => by
      cases q : H b with
      | none => exact .inl (un.keep b o e q (fun z => (List.not_mem_nil (show b ∈ ([] : List Addr) from z)).elim) (fun z => (List.not_mem_nil z).elim))
      | some u =>
        rcases hH b u q with ⟨_, _, ob, u', rfl⟩ | ⟨p, hp, rfl, rfl⟩
        · have e1 := (hok b _ q).1
          have e2 := (hok' b _ (un.frzs b ob u' q)).1
          rw [e] at e1
          cases e1
          exact .inl e2
        · obtain ⟨more, z⟩ := un.tbls _ _ q
          have T := (hC p hp).2.1
          rw [e] at T
          cases T
          exact .inr ⟨p, hp, rfl, rfl, #[] ++ more, hok' _ _ z⟩
    refine ⟨rfl, ⟨fun b o e => ?_, fun b o e => ?_⟩, os, bare⟩
    · rcases key b o e with z | ⟨p, hp, rfl, rfl, more, z⟩
      · exact .inl z
      · exact .inr (.inl ⟨((hC p hp).1.tab e).isCodeTable, rfl, #[], more, rfl, by rw [Array.empty_append]; exact z⟩)
    · rcases key b o e with z | ⟨p, hp, rfl, rfl, more, z⟩
      · exact ⟨o, z⟩
      · exact ⟨_, z⟩
theorem walkT {l : PySem.W.OpenLaw} {n k : Nat} {q : Program} {loose : List Str} {XP : (Str → Option Value) → Heap → Prop} {YP : World → Heap → Prop} {d : DefRec} {K : Params → PySem.W.Frag} {x : Str}
    (hn : l.most = some n) (hn2 : n ≤ sizeLine) (hdf : d.params.defaults = []) (hr : Room k callerA)
    (hY : ∀ (w : World) (h : Heap), YP w h → (K w.params).In h)
    (F : ∀ (w : World) (mg : Str → Option Value) (fa : Addr) (h : Heap), (K w.params).In h → h.Ns mainGlobals mg → mg d.name = some (.ref fa) →
      ∃ (fd : FuncData) (cs : List (Str × Addr × Addr)) (sp : Sp), (∀ p ∈ cs, ((recsOf q).any fun e => e.name == p.1) = true ∧ PySem.W.tabIn (K w.params) p.1 = some p.2 ∧ (K w.params).lookup p.2.2 = none) ∧ (∀ (s : Shared) (u : Value), BindsTo s fd ⟨[u], []⟩ [(x, u)]) ∧
        (∀ base : Heap, (K w.params).In base → base.Ns mainGlobals mg → (∀ p ∈ cs, LamX.TabB base mg p.2.1 p.2.2) → FnG l.prog w (K w.params) mg base k fa fd [x] sp) ∧
        ∀ (H : Hp) (a : Addr) (ns : List Int), ns.length ≤ n → Fz (K w.params) H a (ns.map V.int) → (∀ p ∈ cs, H p.2.2 = some (.tbl #[])) → (∀ b xs, H b ≠ some (.tup xs)) → (∀ p ∈ cs, p.2.2 ≠ a) → sp [.ref a] H (fun v _ => v = .bl true) fun _ _ _ => False) :
    PySem.W.WalkO q loose XP YP l.row.toRowW d [] (fun f vs => PySem.call f vs) := by
  refine Att.attach_call hn hdf fun w s₀ s₁ mg mb fa o pm cd doc a vs ns G Y ho hd hcd hmg hobj hints hlen hg => ?_
  have KX := hY w _ Y
  obtain ⟨fd, cs, sp, hcs, hb, hF, hsp⟩ := F w mg fa _ KX G.T.g hmg
  have hl : ns.length ≤ sizeLine := Nat.le_trans hlen hn2
  have rv := vals_ints hints
  have hC : ∀ p ∈ cs.map (·.2), PySem.W.CodeHd s₁.heap p.1 p.2 ∧ s₁.heap.get? p.2 = some (tabObj #[]) ∧ (K w.params).lookup p.2 = none := fun p hp => by
    obtain ⟨z, hz, rfl⟩ := List.mem_map.mp hp
    obtain ⟨h1, h2, h3⟩ := hcs z hz
    obtain ⟨dd, hf⟩ : ∃ dd, (recsOf q).find? (fun e => e.name == z.1) = some dd := by
      cases e : (recsOf q).find? (fun e => e.name == z.1) with
      | some dd => exact ⟨dd, rfl⟩
      | none =>
        obtain ⟨y, y1, y2⟩ := List.any_eq_true.mp h1
        exact absurd y2 (by simpa using List.find?_eq_none.mp e y y1)
    obtain ⟨g1, g2⟩ := PySem.W.tab_of G.T KX hf h2
    exact ⟨g1, g2, h3⟩
  have na : ∀ p ∈ cs, p.2.2 ≠ a := fun p hp z => by
    have := (hC p.2 (List.mem_map.mpr ⟨p, hp, rfl⟩)).2.1
    rw [z, hobj] at this
    cases this
  have hF' : ∀ base : Heap, (K w.params).In base → base.Ns mainGlobals mg → (∀ p ∈ cs.map (·.2), LamX.TabB base mg p.1 p.2) → FnG l.prog w (K w.params) mg base k fa fd [x] sp := fun base h1 h2 h3 => hF base h1 h2 fun p hp => h3 p.2 (List.mem_map.mpr ⟨p, hp, rfl⟩)
  cases hk : (K w.params).lookup a with
  | some o =>
    have e := KX a o hk
    rw [hobj] at e
    cases e
    have one : ∀ b u, (fun b => if b ∈ cs.map (·.2.2) then some (HO.tbl #[]) else none) b = some u → b ∈ cs.map (·.2.2) ∧ u = HO.tbl #[] := fun b u z => by
      by_cases hb : b ∈ cs.map (·.2.2)
      · exact ⟨hb, (Option.some.inj ((if_pos hb).symm.trans z)).symm⟩
      · exact nomatch ((if_neg hb).symm.trans z)
    refine endT (cs := cs.map (·.2)) (H := fun b => if b ∈ cs.map (·.2.2) then some (.tbl #[]) else none) KX G.T.g G.T.b G.T.builtins G.T.nolimit hg G.T.bmain hC hobj hr hF' hb (hsp _ a ns hlen ?_ (fun p hp => if_pos (List.mem_map.mpr ⟨p, hp, rfl⟩)) (fun b xs z => ?_) na) (fun b u z => ?_) fun b u z => ?_
    · exact .inr fun _ => .inr ⟨_, vs.toArray, _, hk, rfl, rfl, rfl, by rw [List.size_toArray, hints.length]; exact hl, by simpa using rv⟩
    · exact nomatch (one b _ z).2
    · obtain ⟨hb, rfl⟩ := one b u z
      obtain ⟨p, hp, rfl⟩ := List.mem_map.mp hb
      exact (hC p.2 (List.mem_map.mpr ⟨p, hp, rfl⟩)).2.1
    · obtain ⟨hb, rfl⟩ := one b u z
      obtain ⟨p, hp, rfl⟩ := List.mem_map.mp hb
      exact .inr ⟨p.2, List.mem_map.mpr ⟨p, hp, rfl⟩, rfl, rfl⟩
  | none =>
    have one : ∀ b u, (fun b => if b = a then some (HO.frz { cls := .type "list", data := .seq vs.toArray } (.lst (ns.map V.int))) else if b ∈ cs.map (·.2.2) then some (HO.tbl #[]) else none) b = some u →
        (b = a ∧ u = HO.frz { cls := .type "list", data := .seq vs.toArray } (.lst (ns.map V.int))) ∨ (b ∈ cs.map (·.2.2) ∧ u = HO.tbl #[]) := fun b u z => by
      by_cases hb : b = a
      · exact .inl ⟨hb, (Option.some.inj ((if_pos hb).symm.trans z)).symm⟩
      · have z := (if_neg hb).symm.trans z
        by_cases hc : b ∈ cs.map (·.2.2)
        · exact .inr ⟨hc, (Option.some.inj ((if_pos hc).symm.trans z)).symm⟩
        · exact nomatch ((if_neg hc).symm.trans z)
    refine endT (cs := cs.map (·.2)) (H := fun b => if b = a then some (HO.frz { cls := .type "list", data := .seq vs.toArray } (.lst (ns.map V.int))) else if b ∈ cs.map (·.2.2) then some (HO.tbl #[]) else none) KX G.T.g G.T.b G.T.builtins G.T.nolimit hg G.T.bmain hC hobj hr hF' hb
      (hsp _ a ns hlen (.inl ⟨_, if_pos rfl⟩) (fun p hp => ?_) (fun b xs z => ?_) na) (fun b u z => ?_) fun b u z => ?_
    · exact (if_neg (na p hp)).trans (if_pos (List.mem_map.mpr ⟨p, hp, rfl⟩))
    · rcases one b _ z with ⟨_, z⟩ | ⟨_, z⟩
      · exact nomatch z
      · exact nomatch z
    · rcases one b u z with ⟨rfl, rfl⟩ | ⟨hb, rfl⟩
      · exact ⟨hobj, by rw [List.length_map]; exact hl, vs, _, rv, hobj⟩
      · obtain ⟨p, hp, rfl⟩ := List.mem_map.mp hb
        exact (hC p.2 (List.mem_map.mpr ⟨p, hp, rfl⟩)).2.1
    · rcases one b u z with ⟨rfl, rfl⟩ | ⟨hb, rfl⟩
      · exact .inl ⟨rfl, hk, _, _, rfl⟩
      · obtain ⟨p, hp, rfl⟩ := List.mem_map.mp hb
        exact .inr ⟨p.2, List.mem_map.mpr ⟨p, hp, rfl⟩, rfl, rfl⟩
section
variable {P : Program} {w : World} {K : PySem.W.Frag} {mg : Str → Option Value} {base : Heap} {k : Nat} {f : Addr} {fd : FuncData} {ps : List Str} {sp : Sp}
/-- as okG; what is known besides: the def's code object -/
theorem okGT {x qual : Str} {st : Stmt} {N : List Str} {c : Addr} (F : Fun K x qual st f fd) (hc : fd.code = .ref c) (S : FnScope N ps (defScope st)) (len : ∀ vs H Q E, sp vs H Q E → vs.length = ps.length)
    (hbody : ∀ (A : Around) (outer : List Env) (s : Shared) (H : Hp) (vs : List V) (Q : VK) (E : XK), (A.deeper (envOfC qual (defScope st) s.heap.objs.size f (.ref c))).guards = some [] →
      Room k (A.deeper (envOfC qual (defScope st) s.heap.objs.size f (.ref c))) → sp vs H Q E →
      ∃ t, PSs (cxOf CX0 P w K mg base N qual (defScope st) f (.ref c) A outer s H E).nox (defBody st) t ∧ t { nx := fun _ H' => Q .non H', rt := Q } (start N vs) H) :
    FnG P w K mg base (k + 1) f fd ps sp := by
  obtain ⟨oc, od, kV, doc, pm, an, cdv, ct, osl, rfl, lk, hcd⟩ := F.ex
  have hc : cdv = .ref c := hc
  subst hc
  refine ⟨len, fun A outer s H args us vs Q E hg hr e0 hb r hsp => ?_⟩
  have kept : ∀ b o, base.get? b = some o → s.heap.get? b = some o := fun b o e => (e0.bs b o e).1
  have KX : K.In s.heap := e0.mod.kin.keeps kept
  refine codeAny_call_function hr.depth (KX _ _ lk) rfl S.co S.gen rfl (PySem.W.codeRec_of KX hcd) (hb _ _ _ _ ?_)
  refine wpAny_newFunctionEnv_cells S.kind (fun y hy => ?_) fun env he s1 x => ?_
  · rcases S.par y.1 (List.of_mem_zip (show (y.1, y.2) ∈ ps.zip us from hy)).1 with q | q
    · exact .inl q
    · exact .inr ⟨q, PySem.W.cellsFrom_some _ _ _ (.inl q)⟩
  · subst he
    obtain ⟨t, ht, hq⟩ := hbody A outer s H vs Q E hg (hr.deeper _) hsp
    refine ⟨(e0.mod.nolimit.keeps kept).keeps x.toInCall.keep, codeAny_func (wpAny_mono (ht.nox.run [] s1 (start N vs) H _ (inv_start S hr.hd e0 (len _ _ _ _ hsp) r x) hq) (fun fl s' hs => ?_) fun e s' hs => hs)⟩
    cases fl with
    | ret u => exact let ⟨v, _, H', J, rv, q⟩ := hs; ⟨v, H', J.os, J.bare, J.base, J.hok, rv, q⟩
    | next => exact let ⟨_, H', J, q⟩ := hs; ⟨V.non, H', J.os, J.bare, J.base, J.hok, rfl, q⟩
    | brk => exact let ⟨_, _, _, q⟩ := hs; q.elim
    | cont => exact let ⟨_, _, _, q⟩ := hs; q.elim
theorem tab_code {x : Str} {c Pt : Addr} {oc : Value} {od : Option Addr} {sl : Array (Option Value)} (t : PySem.W.tabIn K x = some (c, Pt)) (a : PySem.W.nsIn K mainGlobals x = some (some (.ref f))) (l : K.lookup f = some ⟨oc, od, .func fd, sl⟩) : fd.code = .ref c := by
  unfold PySem.W.tabIn at t
  rw [a] at t
  dsimp only at t
  rw [l] at t
  dsimp only at t
  split at t
  · rename_i c2 hc
    split at t
    · split at t
      · cases t
        exact hc
      · cases t
    · cases t
  · cases t
end
section
variable {ε α β ρ : Type} {M : Mx} {R : ERep ε}
/-- a call that may raise, as a lambda's body -/
theorem x_callES {K : PySem.W.Frag} {cx : Str → Addr} {E : XK} {t : TA} {ra : IR (List V) α} {r : Rep ρ} {f : α → Rs Unit ρ} {m : ε → Rs ε α} (h : EX ⟨K, E, cx⟩ R t (is ra) m) : EX ⟨K, E, cx⟩ R (tCallS (spX K cx ra (fz r) f) (WE fun cls d _ H => E cls d H) t) (fz r) (mCallE f m) := fun F G H σ e i hR Q p => by
  have := x_callE (r := r) (f := f) h F G H σ e i hR Q p
  unfold tCall at this
  simp only [List.append_nil] at this
  exact this
theorem x_callESF {K : PySem.W.Frag} {cx : Str → Addr} {E : XK} {t : TA} {ra : IR (List V) α} {q : ORep ρ} {f : α → Rs Unit ρ} {m : ε → Rs ε α} (h : EX ⟨K, E, cx⟩ R t (is ra) m) : EX ⟨K, E, cx⟩ R (tCallS (spX K cx ra (fs q) f) (WE fun cls d _ H => E cls d H) t) (fs q) (mCallE f m) := fun F G H σ e i hR Q p => by
  have := x_callEF (q := q) (f := f) h F G H σ e i hR Q p
  unfold tCall at this
  simp only [List.append_nil] at this
  exact this
/-! ## plain reasoning -/
theorem rp_lam {told : Rs Unit α → Rs Unit β} {kl : ε → ε} {m : ε → Rs ε α} {e : ε} {Q : β → ε → Prop} : RsP (mLam told kl m e) Q = RsP (told (m (kl e)).out) fun b _ => Q b e := by
  unfold mLam
  exact rp_run
theorem out_callE {f : α → Rs Unit ρ} {m : ε → Rs ε α} {e e1 : ε} {a : α} (h : m e = .ok a e1) : (mCallE f m e).out = f a := by
  unfold mCallE
  rw [h]
  show Rs.out (match f a with | .ok b _ => Rs.ok b e1 | .ex c _ => .ex c e1 | .bad => .bad) = f a
  cases f a with
  | ok b u => rfl
  | ex c u => rfl
  | bad => rfl
end
/-! ## the law's beginning -/
theorem tab_nil {Pt : Addr} {q : Str} {H : Hp} (h : H Pt = some (.tbl #[])) : TabG Pt q (hide H Pt) H := ⟨#[], h, hide_same, True.intro, fun pos cv hc => by
  have z : codeAmong pos [] = some cv := hc
  simp [codeAmong] at z⟩
theorem lawT_go {K : PySem.W.Frag} {H : Hp} {a Pt : Addr} {q : Str} {ns : List Int} {f : List Int → Rs Unit Bool} {E : XK} (hf : Fz K H a (ns.map V.int)) (hP : H Pt = some (.tbl #[])) (ht : ∀ b xs, H b ≠ some (.tup xs)) (hn : Pt ≠ a) (h : RsP (f ns) fun b _ => b = true) :
    spDT K Pt q (aOne (ir rScr)) (fz rB) f [.ref a] H (fun v _ => v = .bl true) E := by
  refine ⟨hide H Pt, ns, ⟨hide_sub, fun b xs z => absurd z (ht b xs)⟩, tab_nil hP, ⟨_, rfl, a, rfl, ?_⟩, ?_⟩
  · rcases hf with ⟨o, h⟩ | h
    · exact .inl ⟨o, by rw [hide_ne hn.symm]; exact h⟩
    · exact .inr h
  · obtain ⟨b, u, e, rfl⟩ := h.ex
    rw [e]
    exact fun v G' H' H1 i hr _ => hr.1
def qLam (x : Str) (sc : Scope) : Str := (envOfC x sc 0 0 .none).qual ++ "<lambda>"
theorem lawT_fin {l : PySem.W.OpenLaw} {w : World} {K : PySem.W.Frag} {mg : Str → Option Value} {fa c Pt : Addr} {x : Str} {k n : Nat} {q : Program} {sp : Addr → Sp} (m : Str)
    (h : ∃ fd : FuncData, (∀ (s : Shared) (u : Value), BindsTo s fd ⟨[u], []⟩ [(x, u)]) ∧ ∀ base : Heap, K.In base → base.Ns mainGlobals mg → LamX.TabB base mg c Pt → FnG l.prog w K mg base k fa fd [x] (sp Pt))
    (tr : ((recsOf q).any fun e => e.name == m) = true) (tb : PySem.W.tabIn K m = some (c, Pt)) (tn : K.lookup Pt = none)
    (go : ∀ (H : Hp) (a : Addr) (ns : List Int) (Pt : Addr), Fz K H a (ns.map V.int) → H Pt = some (.tbl #[]) → (∀ b xs, H b ≠ some (.tup xs)) → Pt ≠ a → sp Pt [.ref a] H (fun v _ => v = .bl true) fun _ _ _ => False) :
    ∃ (fd : FuncData) (cs : List (Str × Addr × Addr)) (sp : Sp), (∀ p ∈ cs, ((recsOf q).any fun e => e.name == p.1) = true ∧ PySem.W.tabIn K p.1 = some p.2 ∧ K.lookup p.2.2 = none) ∧ (∀ (s : Shared) (u : Value), BindsTo s fd ⟨[u], []⟩ [(x, u)]) ∧
        (∀ base : Heap, K.In base → base.Ns mainGlobals mg → (∀ p ∈ cs, LamX.TabB base mg p.2.1 p.2.2) → FnG l.prog w K mg base k fa fd [x] sp) ∧
        ∀ (H : Hp) (a : Addr) (ns : List Int), ns.length ≤ n → Fz K H a (ns.map V.int) → (∀ p ∈ cs, H p.2.2 = some (.tbl #[])) → (∀ b xs, H b ≠ some (.tup xs)) → (∀ p ∈ cs, p.2.2 ≠ a) → sp [.ref a] H (fun v _ => v = .bl true) fun _ _ _ => False := by
  obtain ⟨fd, h1, h2⟩ := h
  have one : ∀ p ∈ [(m, c, Pt)], p = (m, c, Pt) := fun p hp => List.mem_singleton.mp hp
  refine ⟨fd, [(m, c, Pt)], sp Pt, fun p hp => ?_, h1, fun base k1 k2 k3 => h2 base k1 k2 (k3 _ List.mem_cons_self), fun H a ns _ k1 k2 k3 k4 => go H a ns Pt k1 (k2 _ List.mem_cons_self) k3 (k4 _ List.mem_cons_self)⟩
  obtain rfl := one p hp
  exact ⟨tr, tb, tn⟩
/-! # Mirrors that may raise, reasoned about in plain Lean -/
section
variable {ε ε' α β γ ρ ι κ : Type} {X : Xc → Prop}
def RxP0 (X : Xc → Prop) (x : Rs ε α) (Q : α → ε → Prop) : Prop := match x with
  | .ok a e => Q a e | .ex c _ => X c | .bad => False
def SxP0 (X : Xc → Prop) (x : So ε ρ) (N C B : ε → Prop) (T : ρ → ε → Prop) : Prop := match x with
  | .nx e => N e | .ct e => C e | .bk e => B e | .rt a e => T a e | .ex c _ => X c | .bad => False
variable {Q : α → ε → Prop} {N C B : ε → Prop} {T : ρ → ε → Prop} {a : α} {e : ε}
theorem RxP0.imp {x : Rs ε α} {P Q : α → ε → Prop} (h : RxP0 X x P) (k : ∀ a e, P a e → Q a e) : RxP0 X x Q := by
  cases x with
  | ok a e => exact k a e h
  | ex c e => exact h
  | bad => exact h
theorem SxP0.imp {x : So ε ρ} {N N' C C' B B' : ε → Prop} {T T' : ρ → ε → Prop} (h : SxP0 X x N C B T) (n : ∀ e, N e → N' e) (c : ∀ e, C e → C' e) (b : ∀ e, B e → B' e) (t : ∀ a e, T a e → T' a e) : SxP0 X x N' C' B' T' := by
  cases x with
  | nx e => exact n e h
  | ct e => exact c e h
  | bk e => exact b e h
  | rt a e => exact t a e h
  | ex _ _ => exact h
  | bad => exact h
theorem rx_ok_0 : RxP0 X (.ok a e) Q = Q a e := propext ⟨fun h => h, fun h => h⟩
theorem rx_bad_0 : RxP0 X (.bad : Rs ε α) Q = False := propext ⟨fun h => h, fun h => h⟩
theorem rx_of_0 {o : Option α} : RxP0 X (.of o e) Q = OpP0 o fun a => Q a e := by cases o <;> rfl
theorem rx_bind_0 {x : Rs ε β} {f : β → ε → Rs ε α} : RxP0 X (x.bind f) Q = RxP0 X x fun b e1 => RxP0 X (f b e1) Q := by cases x <;> rfl
theorem rx_run_0 {x : Rs Unit α} : RxP0 X (x.run e) Q = RsP0 x fun b _ => Q b e := by cases x <;> rfl
theorem rx_ite_0 {c : Prop} [Decidable c] {x y : Rs ε α} : RxP0 X (if c then x else y) Q = if c then RxP0 X x Q else RxP0 X y Q := by split <;> rfl
theorem sx_nx_0 : SxP0 X (.nx e : So ε ρ) N C B T = N e := propext ⟨fun h => h, fun h => h⟩
theorem sx_ct_0 : SxP0 X (.ct e : So ε ρ) N C B T = C e := propext ⟨fun h => h, fun h => h⟩
theorem sx_bk_0 : SxP0 X (.bk e : So ε ρ) N C B T = B e := propext ⟨fun h => h, fun h => h⟩
theorem sx_rt_0 {r : ρ} : SxP0 X (.rt r e) N C B T = T r e := propext ⟨fun h => h, fun h => h⟩
theorem sx_so_0 {x : Rs ε α} {f : α → ε → So ε ρ} : SxP0 X (x.so f) N C B T = RxP0 X x fun a e1 => SxP0 X (f a e1) N C B T := by cases x <;> rfl
theorem sx_ite_0 {c : Prop} [Decidable c] {x y : So ε ρ} : SxP0 X (if c then x else y) N C B T = if c then SxP0 X x N C B T else SxP0 X y N C B T := by split <;> rfl
theorem sx_seq_0 {m n : ε → So ε ρ} : SxP0 X (mSeq m n e) N C B T = SxP0 X (m e) (fun e1 => SxP0 X (n e1) N C B T) C B T := by unfold mSeq; cases m e <;> rfl
theorem sx_kill_0 {k : ε → ε} {m : ε → So ε ρ} : SxP0 X (mKill k m e) N C B T = SxP0 X (m e) (fun e1 => N (k e1)) (fun e1 => C (k e1)) (fun e1 => B (k e1)) T := by unfold mKill; cases m e <;> rfl
theorem sx_for_0 {m : ε → Rs ε (List α)} {pt : α → ε → ε} {b : ε → So ε ρ} : SxP0 X (mFor m pt b e) N C B T = RxP0 X (m e) fun xs e1 => SxP0 X (mLoop (fun x e => b (pt x e)) xs e1) N C B T := by unfold mFor; rw [sx_so_0]
theorem sx_ret_0 {m : ε → Rs ε ρ} : SxP0 X (mRet m e) N C B T = RxP0 X (m e) T := by unfold mRet; rw [sx_so_0]; rfl
theorem sx_drop_0 {m : ε → Rs ε α} : SxP0 X (mDrop m e : So ε ρ) N C B T = RxP0 X (m e) fun _ e1 => N e1 := by unfold mDrop; rw [sx_so_0]; rfl
theorem sx_set_0 {l : Ln ε α} {m : ε → Rs ε α} : SxP0 X (mSet l m e : So ε ρ) N C B T = RxP0 X (m e) fun a e1 => N (l.put (some a) e1) := by unfold mSet; rw [sx_so_0]; rfl
theorem sx_asgN_0 {m : ε → Rs ε α} {pt : α → ε → ε} : SxP0 X (mAsgN m pt e : So ε ρ) N C B T = RxP0 X (m e) fun a e1 => N (pt a e1) := by unfold mAsgN; rw [sx_so_0]; rfl
theorem sx_if_0 {c : ε → Rs ε Bool} {m n : ε → So ε ρ} : SxP0 X (mIfS c m n e) N C B T = RxP0 X (c e) fun b e1 => if b = true then SxP0 X (m e1) N C B T else SxP0 X (n e1) N C B T := by
  unfold mIfS; rw [sx_so_0]; congr; funext b e1; exact sx_ite_0
theorem sx_next_0 : SxP0 X (mNext e : So ε ρ) N C B T = N e := propext ⟨fun h => h, fun h => h⟩
theorem sx_mbk_0 : SxP0 X (mBrk e : So ε ρ) N C B T = B e := propext ⟨fun h => h, fun h => h⟩
theorem sx_mct_0 : SxP0 X (mCt e : So ε ρ) N C B T = C e := propext ⟨fun h => h, fun h => h⟩
theorem rx_un_0 {g : β → Option α} {m : ε → Rs ε β} : RxP0 X (mUn g m e) Q = RxP0 X (m e) fun b e1 => OpP0 (g b) fun a => Q a e1 := by unfold mUn; rw [rx_bind_0]; congr; funext b e1; exact rx_of_0
theorem rx_op_0 {g : β → γ → Option α} {m : ε → Rs ε β} {n : ε → Rs ε γ} : RxP0 X (mOp g m n e) Q = RxP0 X (m e) fun b e1 => RxP0 X (n e1) fun c e2 => OpP0 (g b c) fun a => Q a e2 := by
  unfold mOp; rw [rx_bind_0]; congr; funext b e1; rw [rx_bind_0]; congr; funext c e2; exact rx_of_0
theorem rx_var_0 {l : Ln ε α} : RxP0 X (mVar l e) Q = OpP0 (l.get e) fun a => Q a e := rx_of_0
theorem rx_move_0 {l : Ln ε α} : RxP0 X (mMove l e) Q = OpP0 (l.get e) fun a => Q a (l.put none e) := rx_of_0
theorem rx_c_0 {a : α} : RxP0 X (mC a e) Q = Q a e := propext ⟨fun h => h, fun h => h⟩
theorem rx_opL_0 {g : β → γ → Option α} {l : Ln ε β} {m : ε → Rs ε γ} : RxP0 X (mOpL g l m e) Q = OpP0 (l.get e) fun _ => RxP0 X (m e) fun c e1 => OpP0 (l.get e1) fun b => OpP0 (g b c) fun a => Q a e1 := by
  unfold mOpL
  cases l.get e with
  | none => rfl
  | some x =>
    simp only [rx_bind_0, OpP0]
    congr; funext c e1; rw [rx_var_0]; congr; funext b; exact rx_of_0
theorem rx_pair_0 {m : ε → Rs ε α} {n : ε → Rs ε β} {Q : α × β → ε → Prop} : RxP0 X (mPair m n e) Q = RxP0 X (m e) fun a e1 => RxP0 X (n e1) fun b e2 => Q (a, b) e2 := by unfold mPair; rw [rx_bind_0]; congr; funext a e1; rw [rx_bind_0]; rfl
theorem rx_pairL_0 {l : Ln ε α} {n : ε → Rs ε β} {Q : α × β → ε → Prop} : RxP0 X (mPairL l n e) Q = OpP0 (l.get e) fun _ => RxP0 X (n e) fun b e1 => OpP0 (l.get e1) fun a => Q (a, b) e1 := by
  unfold mPairL
  cases l.get e with
  | none => rfl
  | some x =>
    simp only [rx_bind_0, OpP0]
    congr; funext c e1; rw [rx_var_0]; rfl
theorem rx_cons_0 {m : ε → Rs ε α} {n : ε → Rs ε (List α)} {Q : List α → ε → Prop} : RxP0 X (mCons m n e) Q = RxP0 X (m e) fun a e1 => RxP0 X (n e1) fun b e2 => Q (a :: b) e2 := by unfold mCons; rw [rx_bind_0]; congr; funext a e1; rw [rx_bind_0]; rfl
theorem rx_call_0 {f : β → Rs Unit α} {m : ε → Rs ε β} : RxP0 X (mCall f m e) Q = RxP0 X (m e) fun b e1 => RsP0 (f b) fun a _ => Q a e1 := by unfold mCall; rw [rx_bind_0]; congr; funext b e1; exact rx_run_0
theorem rx_callI_0 {l : Ln ε ι} {f : ι → β → Rs ι α} {m : ε → Rs ε β} : RxP0 X (mCallI l f m e) Q = OpP0 (l.get e) fun _ => RxP0 X (m e) fun b e1 => OpP0 (l.get e1) fun s => RsP0 (f s b) fun a s' => Q a (l.put (some s') (l.put none e1)) := by
  unfold mCallI
  cases l.get e with
  | none => rfl
  | some x =>
    simp only [rx_bind_0, OpP0]
    congr; funext b e1
    cases l.get e1 with
    | none => rfl
    | some s => cases h : f s b <;> simp only [h] <;> rfl
theorem rx_bm_0 {l : Ln ε ι} {g : ι → β → Option (α × ι)} {m : ε → Rs ε β} : RxP0 X (mBM l g m e) Q = OpP0 (l.get e) fun _ => RxP0 X (m e) fun b e1 => OpP0 (l.get e1) fun s => OpP0 (g s b) fun p => Q p.1 (l.put (some p.2) (l.put none e1)) := by
  unfold mBM
  cases l.get e with
  | none => rfl
  | some x =>
    simp only [rx_bind_0, OpP0]
    congr; funext b e1
    cases l.get e1 with
    | none => rfl
    | some s => cases h : g s b <;> simp only [h] <;> rfl
theorem rx_bm0_0 {l : Ln ε ι} {g : ι → Unit → Option (α × ι)} : RxP0 X (mBM0 l g e) Q = OpP0 (l.get e) fun _ => OpP0 (l.get e) fun s => OpP0 (g s ()) fun p => Q p.1 (l.put (some p.2) (l.put none e)) := rx_bm_0
theorem sx_setI_0 {l : Ln ε γ} {g : γ → α → β → Option γ} {mi : ε → Rs ε α} {m : ε → Rs ε β} : SxP0 X (mSetI l g mi m e : So ε ρ) N C B T = RxP0 X (m e) fun y e1 => OpP0 (l.get e1) fun _ => RxP0 X (mi e1) fun x e2 => OpP0 (l.get e2) fun s => OpP0 (g s x y) fun s' => N (l.put (some s') (l.put none e2)) := by
  unfold mSetI
  rw [sx_so_0]; congr; funext y e1
  cases l.get e1 with
  | none => rfl
  | some s =>
    simp only [sx_so_0, OpP0]
    congr; funext x e2
    cases l.get e2 with
    | none => rfl
    | some s => cases h : g s x y <;> simp only [h] <;> rfl
theorem rx_not_0 {m : ε → Rs ε Bool} {Q : Bool → ε → Prop} : RxP0 X (mNot m e) Q = RxP0 X (m e) fun b e1 => Q (!b) e1 := by unfold mNot; rw [rx_bind_0]; rfl
theorem rx_and_0 {m n : ε → Rs ε Bool} {Q : Bool → ε → Prop} : RxP0 X (mAnd m n e) Q = RxP0 X (m e) fun b e1 => if b = true then RxP0 X (n e1) Q else Q false e1 := by unfold mAnd; rw [rx_bind_0]; congr; funext b e1; exact rx_ite_0
theorem rx_or_0 {m n : ε → Rs ε Bool} {Q : Bool → ε → Prop} : RxP0 X (mOr m n e) Q = RxP0 X (m e) fun b e1 => if b = true then Q true e1 else RxP0 X (n e1) Q := by unfold mOr; rw [rx_bind_0]; congr; funext b e1; exact rx_ite_0
theorem rx_if_0 {c : ε → Rs ε Bool} {m n : ε → Rs ε α} : RxP0 X (mIf c m n e) Q = RxP0 X (c e) fun b e1 => if b = true then RxP0 X (m e1) Q else RxP0 X (n e1) Q := by unfold mIf; rw [rx_bind_0]; congr; funext b e1; exact rx_ite_0
theorem rx_chain_0 {g : α → β → Option Bool} {g' : β → γ → Option Bool} {m : ε → Rs ε α} {n : ε → Rs ε β} {k : ε → Rs ε γ} {Q : Bool → ε → Prop} : RxP0 X (mChain g g' m n k e) Q = RxP0 X (m e) fun a e1 => RxP0 X (n e1) fun b e2 => OpP0 (g a b) fun c => if c = true then RxP0 X (k e2) fun d e3 => OpP0 (g' b d) fun z => Q z e3 else Q false e2 := by
  unfold mChain
  rw [rx_bind_0]; congr; funext a e1; rw [rx_bind_0]; congr; funext b e2; rw [rx_bind_0, rx_of_0]; congr; funext c; rw [rx_ite_0, rx_bind_0]
  split
  · congr; funext d e3; exact rx_of_0
  · rfl
theorem rx_mSome_0 {m : ε → Rs ε α} {Q : Option α → ε → Prop} : RxP0 X (mSome m e) Q = RxP0 X (m e) fun a e1 => Q (some a) e1 := by unfold mSome; rw [rx_bind_0]; rfl
theorem rx_mNone_0 {m : ε → Rs ε Unit} {Q : Option α → ε → Prop} : RxP0 X (mNone m e) Q = RxP0 X (m e) fun a e1 => Q none e1 := by unfold mNone; rw [rx_bind_0]; rfl
theorem rx_part_0 {m : ε → Rs ε Int} {Q : Option Int → ε → Prop} : RxP0 X (mPart m e) Q = RxP0 X (m e) fun a e1 => Q (some a) e1 := by unfold mPart; rw [rx_bind_0]; rfl
theorem rx_sl_0 {g : β → Option Int → Option Int → Option α} {m : ε → Rs ε β} {lo hi : ε → Rs ε (Option Int)} : RxP0 X (mSl g m lo hi e) Q = RxP0 X (m e) fun b e1 => RxP0 X (lo e1) fun l e2 => RxP0 X (hi e2) fun u e3 => OpP0 (g b l u) fun a => Q a e3 := by
  unfold mSl
  rw [rx_bind_0]; congr; funext b e1; rw [rx_bind_0]; congr; funext l e2; rw [rx_bind_0]; congr; funext u e3; exact rx_of_0
theorem rx_slL_0 {g : β → Option Int → Option Int → Option α} {l : Ln ε β} {lo hi : ε → Rs ε (Option Int)} : RxP0 X (mSlL g l lo hi e) Q = OpP0 (l.get e) fun _ => RxP0 X (lo e) fun l1 e2 => RxP0 X (hi e2) fun u e3 => OpP0 (l.get e3) fun b => OpP0 (g b l1 u) fun a => Q a e3 := by
  unfold mSlL
  cases l.get e with
  | none => rfl
  | some x =>
    simp only [rx_bind_0, OpP0]
    congr; funext l1 e2; congr; funext u e3; rw [rx_var_0]; congr; funext b; exact rx_of_0
theorem rx_rng1_0 {m : ε → Rs ε Int} {Q : List Int → ε → Prop} : RxP0 X (mRng1 m e) Q = RxP0 X (m e) fun n e1 => bigI n = true ∧ Q (rng 0 n) e1 := by
  unfold mRng1; rw [rx_bind_0]; congr; funext n e1; rw [rx_ite_0]
  by_cases h : bigI n = true
  · simp [h, rx_ok_0]
  · simp [h, rx_bad_0]
theorem rx_rng2_0 {m : ε → Rs ε (Int × Int)} {Q : List Int → ε → Prop} : RxP0 X (mRng2 m e) Q = RxP0 X (m e) fun n e1 => (bigI n.1 = true ∧ bigI n.2 = true) ∧ Q (rng n.1 n.2) e1 := by
  unfold mRng2; rw [rx_bind_0]; congr; funext n e1; rw [rx_ite_0]
  by_cases h : bigI n.1 = true ∧ bigI n.2 = true
  · simp [h, rx_ok_0]
  · simp [h, rx_bad_0]
theorem rx_enum_0 {m : ε → Rs ε (List α)} {Q : List (Int × α) → ε → Prop} : RxP0 X (mEnum m e) Q = RxP0 X (m e) fun xs e1 => Q (enumF xs) e1 := by unfold mEnum; rw [rx_bind_0]; rfl
theorem rx_lock_0 {l : Ln ε γ} {m : ε → Rs ε α} : RxP0 X (mLock l m e) Q = OpP0 (l.get e) fun x => RsP0 (m (l.put (some x) e)) fun a e1 => Q a (l.put (some x) (l.put none e1)) := by
  unfold mLock
  cases l.get e with
  | none => rfl
  | some x => simp only [OpP0]; cases m (l.put (some x) e) <;> rfl
theorem rx_dget2_0 [DecidableEq κ] {l : Ln ε (List (κ × β))} {m : ε → Rs ε κ} {x : ε → Rs ε β} {Q : β → ε → Prop} : RxP0 X (mDGet2 l m x e) Q = OpP0 (l.get e) fun _ => RxP0 X (m e) fun a e1 => RxP0 X (x e1) fun b e2 => OpP0 (l.get e2) fun kbs => Q ((dget kbs a).getD b) e2 := by
  unfold mDGet2
  cases l.get e with
  | none => rfl
  | some y =>
    simp only [rx_bind_0, OpP0]
    congr; funext a e1; congr; funext b e2; rw [rx_var_0]; rfl
theorem rx_keys_0 {l : Ln ε (List (κ × β))} {Q : List κ → ε → Prop} : RxP0 X (mKeys l e) Q = OpP0 (l.get e) fun kbs => Q (keysOf kbs) e := by unfold mKeys; rw [rx_bind_0, rx_var_0]; rfl
theorem rx_lc_0 {it : ε → Rs ε (List α)} {pt : α → ε → ε} {tt : ε → Rs ε Bool} {te : ε → Rs ε β} {kill : ε → ε} {rst : ε → ε → ε} {Q : List β → ε → Prop} : RxP0 X (mLc it pt tt te kill rst e) Q = RxP0 X (it e) fun xs e1 => xs.length ≤ 1000000 ∧ RxP0 X (lcR pt tt te kill xs (kill e1) []) fun ys e2 => Q ys (rst e1 e2) := by
  unfold mLc; rw [rx_bind_0]; congr; funext xs e1; rw [rx_ite_0]
  by_cases h : xs.length ≤ 1000000
  · simp only [h, if_true, true_and, rx_bind_0]; rfl
  · simp [h, rx_bad_0]
theorem rx_yes_0 {Q : Bool → ε → Prop} : RxP0 X (mYes e) Q = Q true e := propext ⟨fun h => h, fun h => h⟩
theorem rx_runD_0 {x : So ε ρ} {Q : ρ → Unit → Prop} : RxP0 X (x.run none) Q = SxP0 X x (fun _ => False) (fun _ => False) (fun _ => False) fun a _ => Q a () := by cases x <;> rfl
theorem rx_runDS_0 {x : So ε ρ} {d : ρ} {Q : ρ → Unit → Prop} : RxP0 X (x.run (some d)) Q = SxP0 X x (fun _ => Q d ()) (fun _ => False) (fun _ => False) fun a _ => Q a () := by cases x <;> rfl
theorem cutX_0 {m n : ε → So ε ρ} (Mid : ε → Prop) (h1 : SxP0 X (m e) Mid C B T) (h2 : ∀ e1, Mid e1 → SxP0 X (n e1) N C B T) : SxP0 X (mCut m n e) N C B T := by
  unfold mCut
  rw [sx_seq_0]
  exact h1.imp h2 (fun _ h => h) (fun _ h => h) fun _ _ h => h
theorem ifX_0 {c : ε → Rs ε Bool} {m n : ε → So ε ρ} {e' : ε} (p : Prop) (hc : RxP0 X (c e) fun b e1 => (b = true ↔ p) ∧ e1 = e') (h1 : p → SxP0 X (m e') N C B T) (h2 : ¬ p → SxP0 X (n e') N C B T) : SxP0 X (mIfB c m n e) N C B T := by
  unfold mIfB
  rw [sx_if_0]
  refine hc.imp ?_
  rintro b e1 ⟨hb, rfl⟩
  by_cases h : p
  · rw [if_pos (hb.mpr h)]
    exact h1 h
  · rw [if_neg fun z => h (hb.mp z)]
    exact h2 h
theorem loopX_0 {b : α → ε → So ε ρ} {xs : List α} {e : ε} (P : Nat → ε → Prop) (h0 : P 0 e) (hs : ∀ i x e, xs[i]? = some x → P i e → SxP0 X (b x e) (P (i + 1)) (P (i + 1)) N T) (hd : ∀ e, P xs.length e → N e) : SxP0 X (mLoop b xs e) N C B T := by
  suffices h : ∀ (ys : List α) (i : Nat) (e : ε), (∀ j x, ys[j]? = some x → xs[i + j]? = some x) → i + ys.length = xs.length → P i e → SxP0 X (mLoop b ys e) N C B T from h xs 0 e (fun j x h => by simpa using h) (by simp) h0
  intro ys
  induction ys with
  | nil => intro i e _ hl p; exact hd e (by simp at hl; rw [← hl]; exact p)
  | cons y ys ih =>
    intro i e hx hl p
    have h1 := hs i y e (by simpa using hx 0 y rfl) p
    unfold mLoop
    revert h1
    cases b y e with
    | nx e1 => exact fun h1 => ih (i + 1) e1 (fun j x h => by rw [Nat.add_assoc, Nat.add_comm 1 j]; exact hx (j + 1) x (by simpa using h)) (by simp at hl; omega) h1
    | ct e1 => exact fun h1 => ih (i + 1) e1 (fun j x h => by rw [Nat.add_assoc, Nat.add_comm 1 j]; exact hx (j + 1) x (by simpa using h)) (by simp at hl; omega) h1
    | bk e1 => exact id
    | rt a e1 => exact id
    | ex c e1 => exact id
    | bad => exact id
theorem loopRX_0 {b : Int → ε → So ε ρ} {n : Nat} {hi : Int} {e : ε} (hn : hi = (n : Int)) (P : Nat → ε → Prop) (h0 : P 0 e) (hs : ∀ (i : Nat) e, i < n → P i e → SxP0 X (b (i : Int) e) (P (i + 1)) (P (i + 1)) N T) (hd : ∀ e, P n e → N e) : SxP0 X (mLoop b (rng 0 hi) e) N C B T := by
  subst hn
  refine loopX_0 P h0 (fun i x e hx p => ?_) (fun e p => hd e ?_)
  · obtain ⟨h1, h2⟩ := rng_get hx
    rw [h2, Int.zero_add]
    exact hs i e (by omega) p
  · rw [rng_length] at p
    simpa using p
inductive RxP {ε α : Type} (X : Xc → Prop) : Rs ε α → (α → ε → Prop) → Prop
  | mk {a : α} {e : ε} {Q : α → ε → Prop} (h : Q a e) : RxP X (.ok a e) Q
  | ex {c : Xc} {e : ε} {Q : α → ε → Prop} (h : X c) : RxP X (.ex c e) Q
inductive SxP {ε ρ : Type} (X : Xc → Prop) : So ε ρ → (ε → Prop) → (ε → Prop) → (ε → Prop) → (ρ → ε → Prop) → Prop
  | nx {e : ε} {N C B : ε → Prop} {T : ρ → ε → Prop} (h : N e) : SxP X (.nx e) N C B T
  | ct {e : ε} {N C B : ε → Prop} {T : ρ → ε → Prop} (h : C e) : SxP X (.ct e) N C B T
  | bk {e : ε} {N C B : ε → Prop} {T : ρ → ε → Prop} (h : B e) : SxP X (.bk e) N C B T
  | rt {a : ρ} {e : ε} {N C B : ε → Prop} {T : ρ → ε → Prop} (h : T a e) : SxP X (.rt a e) N C B T
  | ex {c : Xc} {e : ε} {N C B : ε → Prop} {T : ρ → ε → Prop} (h : X c) : SxP X (.ex c e) N C B T
theorem RxP_eq {x : Rs ε α} {Q : α → ε → Prop} : RxP X x Q = RxP0 X x Q := by
  refine propext ⟨fun h => by cases h with | mk h => exact h | ex h => exact h, fun h => ?_⟩
  cases x with
  | ok a e => exact .mk h
  | ex c e => exact .ex h
  | bad => exact h.elim
theorem SxP_eq {x : So ε ρ} {N C B : ε → Prop} {T : ρ → ε → Prop} : SxP X x N C B T = SxP0 X x N C B T := by
  refine propext ⟨fun h => by cases h with | nx h => exact h | ct h => exact h | bk h => exact h | rt h => exact h | ex h => exact h, fun h => ?_⟩
  cases x with
  | nx e => exact .nx h
  | ct e => exact .ct h
  | bk e => exact .bk h
  | rt a e => exact .rt h
  | ex c e => exact .ex h
  | bad => exact h.elim
theorem RxP.of {x : Rs ε α} {Q : α → ε → Prop} (h : RsP x Q) : RxP X x Q := by cases h with | mk h => exact .mk h
theorem SxP.of {x : So ε ρ} (h : SoP x N C B T) : SxP X x N C B T := by
  cases h with
  | nx h => exact .nx h
  | ct h => exact .ct h
  | bk h => exact .bk h
  | rt h => exact .rt h
theorem RsP.impX {x : Rs ε α} {P Q : α → ε → Prop} (h : RsP x P) (k : ∀ a e, P a e → Q a e) : RxP X x Q := .of (h.imp k)
theorem RxP.exc {Y : Xc → Prop} {x : Rs ε α} {P Q : α → ε → Prop} (h : RxP X x P) (k : ∀ a e, P a e → Q a e) (l : ∀ c, X c → Y c) : RxP Y x Q := by
  cases h with
  | mk h => exact .mk (k _ _ h)
  | ex h => exact .ex (l _ h)
theorem RxP.none {x : Rs ε α} {P : α → ε → Prop} (h : RxP (fun _ => False) x P) : RsP x P := by
  cases h with
  | mk h => exact .mk h
  | ex h => exact h.elim
theorem RxP.imp {x : Rs ε α} {P Q : α → ε → Prop} (h : RxP X x P) (k : ∀ a e, P a e → Q a e) : RxP X x Q := by
  simp only [RxP_eq, SxP_eq, RsP_eq, SoP_eq, OpP_eq] at *
  exact RxP0.imp h k
theorem SxP.imp {x : So ε ρ} {N N' C C' B B' : ε → Prop} {T T' : ρ → ε → Prop} (h : SxP X x N C B T) (n : ∀ e, N e → N' e) (c : ∀ e, C e → C' e) (b : ∀ e, B e → B' e) (t : ∀ a e, T a e → T' a e) : SxP X x N' C' B' T' := by
  simp only [RxP_eq, SxP_eq, RsP_eq, SoP_eq, OpP_eq] at *
  exact SxP0.imp h n c b t
theorem rx_ok : RxP X (.ok a e) Q = Q a e := by
  simp only [RxP_eq, SxP_eq, RsP_eq, SoP_eq, OpP_eq]
  exact rx_ok_0
theorem rx_bad : RxP X (.bad : Rs ε α) Q = False := by
  simp only [RxP_eq, SxP_eq, RsP_eq, SoP_eq, OpP_eq]
  exact rx_bad_0
theorem rx_of {o : Option α} : RxP X (.of o e) Q = OpP o fun a => Q a e := by
  simp only [RxP_eq, SxP_eq, RsP_eq, SoP_eq, OpP_eq]
  exact rx_of_0
theorem rx_bind {x : Rs ε β} {f : β → ε → Rs ε α} : RxP X (x.bind f) Q = RxP X x fun b e1 => RxP X (f b e1) Q := by
  simp only [RxP_eq, SxP_eq, RsP_eq, SoP_eq, OpP_eq]
  exact rx_bind_0
theorem rx_run {x : Rs Unit α} : RxP X (x.run e) Q = RsP x fun b _ => Q b e := by
  simp only [RxP_eq, SxP_eq, RsP_eq, SoP_eq, OpP_eq]
  exact rx_run_0
theorem rx_ite {c : Prop} [Decidable c] {x y : Rs ε α} : RxP X (if c then x else y) Q = if c then RxP X x Q else RxP X y Q := by
  simp only [RxP_eq, SxP_eq, RsP_eq, SoP_eq, OpP_eq]
  exact rx_ite_0
theorem sx_nx : SxP X (.nx e : So ε ρ) N C B T = N e := by
  simp only [RxP_eq, SxP_eq, RsP_eq, SoP_eq, OpP_eq]
  exact sx_nx_0
theorem sx_ct : SxP X (.ct e : So ε ρ) N C B T = C e := by
  simp only [RxP_eq, SxP_eq, RsP_eq, SoP_eq, OpP_eq]
  exact sx_ct_0
theorem sx_bk : SxP X (.bk e : So ε ρ) N C B T = B e := by
  simp only [RxP_eq, SxP_eq, RsP_eq, SoP_eq, OpP_eq]
  exact sx_bk_0
theorem sx_rt {r : ρ} : SxP X (.rt r e) N C B T = T r e := by
  simp only [RxP_eq, SxP_eq, RsP_eq, SoP_eq, OpP_eq]
  exact sx_rt_0
theorem sx_so {x : Rs ε α} {f : α → ε → So ε ρ} : SxP X (x.so f) N C B T = RxP X x fun a e1 => SxP X (f a e1) N C B T := by
  simp only [RxP_eq, SxP_eq, RsP_eq, SoP_eq, OpP_eq]
  exact sx_so_0
theorem sx_ite {c : Prop} [Decidable c] {x y : So ε ρ} : SxP X (if c then x else y) N C B T = if c then SxP X x N C B T else SxP X y N C B T := by
  simp only [RxP_eq, SxP_eq, RsP_eq, SoP_eq, OpP_eq]
  exact sx_ite_0
theorem sx_seq {m n : ε → So ε ρ} : SxP X (mSeq m n e) N C B T = SxP X (m e) (fun e1 => SxP X (n e1) N C B T) C B T := by
  simp only [RxP_eq, SxP_eq, RsP_eq, SoP_eq, OpP_eq]
  exact sx_seq_0
theorem sx_kill {k : ε → ε} {m : ε → So ε ρ} : SxP X (mKill k m e) N C B T = SxP X (m e) (fun e1 => N (k e1)) (fun e1 => C (k e1)) (fun e1 => B (k e1)) T := by
  simp only [RxP_eq, SxP_eq, RsP_eq, SoP_eq, OpP_eq]
  exact sx_kill_0
theorem sx_for {m : ε → Rs ε (List α)} {pt : α → ε → ε} {b : ε → So ε ρ} : SxP X (mFor m pt b e) N C B T = RxP X (m e) fun xs e1 => SxP X (mLoop (fun x e => b (pt x e)) xs e1) N C B T := by
  simp only [RxP_eq, SxP_eq, RsP_eq, SoP_eq, OpP_eq]
  exact sx_for_0
theorem sx_ret {m : ε → Rs ε ρ} : SxP X (mRet m e) N C B T = RxP X (m e) T := by
  simp only [RxP_eq, SxP_eq, RsP_eq, SoP_eq, OpP_eq]
  exact sx_ret_0
theorem sx_drop {m : ε → Rs ε α} : SxP X (mDrop m e : So ε ρ) N C B T = RxP X (m e) fun _ e1 => N e1 := by
  simp only [RxP_eq, SxP_eq, RsP_eq, SoP_eq, OpP_eq]
  exact sx_drop_0
theorem sx_set {l : Ln ε α} {m : ε → Rs ε α} : SxP X (mSet l m e : So ε ρ) N C B T = RxP X (m e) fun a e1 => N (l.put (some a) e1) := by
  simp only [RxP_eq, SxP_eq, RsP_eq, SoP_eq, OpP_eq]
  exact sx_set_0
theorem sx_asgN {m : ε → Rs ε α} {pt : α → ε → ε} : SxP X (mAsgN m pt e : So ε ρ) N C B T = RxP X (m e) fun a e1 => N (pt a e1) := by
  simp only [RxP_eq, SxP_eq, RsP_eq, SoP_eq, OpP_eq]
  exact sx_asgN_0
theorem sx_if {c : ε → Rs ε Bool} {m n : ε → So ε ρ} : SxP X (mIfS c m n e) N C B T = RxP X (c e) fun b e1 => if b = true then SxP X (m e1) N C B T else SxP X (n e1) N C B T := by
  simp only [RxP_eq, SxP_eq, RsP_eq, SoP_eq, OpP_eq]
  exact sx_if_0
theorem sx_next : SxP X (mNext e : So ε ρ) N C B T = N e := by
  simp only [RxP_eq, SxP_eq, RsP_eq, SoP_eq, OpP_eq]
  exact sx_next_0
theorem sx_mbk : SxP X (mBrk e : So ε ρ) N C B T = B e := by
  simp only [RxP_eq, SxP_eq, RsP_eq, SoP_eq, OpP_eq]
  exact sx_mbk_0
theorem sx_mct : SxP X (mCt e : So ε ρ) N C B T = C e := by
  simp only [RxP_eq, SxP_eq, RsP_eq, SoP_eq, OpP_eq]
  exact sx_mct_0
theorem rx_un {g : β → Option α} {m : ε → Rs ε β} : RxP X (mUn g m e) Q = RxP X (m e) fun b e1 => OpP (g b) fun a => Q a e1 := by
  simp only [RxP_eq, SxP_eq, RsP_eq, SoP_eq, OpP_eq]
  exact rx_un_0
theorem rx_op {g : β → γ → Option α} {m : ε → Rs ε β} {n : ε → Rs ε γ} : RxP X (mOp g m n e) Q = RxP X (m e) fun b e1 => RxP X (n e1) fun c e2 => OpP (g b c) fun a => Q a e2 := by
  simp only [RxP_eq, SxP_eq, RsP_eq, SoP_eq, OpP_eq]
  exact rx_op_0
theorem rx_var {l : Ln ε α} : RxP X (mVar l e) Q = OpP (l.get e) fun a => Q a e := by
  simp only [RxP_eq, SxP_eq, RsP_eq, SoP_eq, OpP_eq]
  exact rx_var_0
theorem rx_move {l : Ln ε α} : RxP X (mMove l e) Q = OpP (l.get e) fun a => Q a (l.put none e) := by
  simp only [RxP_eq, SxP_eq, RsP_eq, SoP_eq, OpP_eq]
  exact rx_move_0
theorem rx_c {a : α} : RxP X (mC a e) Q = Q a e := by
  simp only [RxP_eq, SxP_eq, RsP_eq, SoP_eq, OpP_eq]
  exact rx_c_0
theorem rx_opL {g : β → γ → Option α} {l : Ln ε β} {m : ε → Rs ε γ} : RxP X (mOpL g l m e) Q = OpP (l.get e) fun _ => RxP X (m e) fun c e1 => OpP (l.get e1) fun b => OpP (g b c) fun a => Q a e1 := by
  simp only [RxP_eq, SxP_eq, RsP_eq, SoP_eq, OpP_eq]
  exact rx_opL_0
theorem rx_pair {m : ε → Rs ε α} {n : ε → Rs ε β} {Q : α × β → ε → Prop} : RxP X (mPair m n e) Q = RxP X (m e) fun a e1 => RxP X (n e1) fun b e2 => Q (a, b) e2 := by
  simp only [RxP_eq, SxP_eq, RsP_eq, SoP_eq, OpP_eq]
  exact rx_pair_0
theorem rx_pairL {l : Ln ε α} {n : ε → Rs ε β} {Q : α × β → ε → Prop} : RxP X (mPairL l n e) Q = OpP (l.get e) fun _ => RxP X (n e) fun b e1 => OpP (l.get e1) fun a => Q (a, b) e1 := by
  simp only [RxP_eq, SxP_eq, RsP_eq, SoP_eq, OpP_eq]
  exact rx_pairL_0
theorem rx_cons {m : ε → Rs ε α} {n : ε → Rs ε (List α)} {Q : List α → ε → Prop} : RxP X (mCons m n e) Q = RxP X (m e) fun a e1 => RxP X (n e1) fun b e2 => Q (a :: b) e2 := by
  simp only [RxP_eq, SxP_eq, RsP_eq, SoP_eq, OpP_eq]
  exact rx_cons_0
theorem rx_call {f : β → Rs Unit α} {m : ε → Rs ε β} : RxP X (mCall f m e) Q = RxP X (m e) fun b e1 => RsP (f b) fun a _ => Q a e1 := by
  simp only [RxP_eq, SxP_eq, RsP_eq, SoP_eq, OpP_eq]
  exact rx_call_0
theorem rx_callI {l : Ln ε ι} {f : ι → β → Rs ι α} {m : ε → Rs ε β} : RxP X (mCallI l f m e) Q = OpP (l.get e) fun _ => RxP X (m e) fun b e1 => OpP (l.get e1) fun s => RsP (f s b) fun a s' => Q a (l.put (some s') (l.put none e1)) := by
  simp only [RxP_eq, SxP_eq, RsP_eq, SoP_eq, OpP_eq]
  exact rx_callI_0
theorem rx_bm {l : Ln ε ι} {g : ι → β → Option (α × ι)} {m : ε → Rs ε β} : RxP X (mBM l g m e) Q = OpP (l.get e) fun _ => RxP X (m e) fun b e1 => OpP (l.get e1) fun s => OpP (g s b) fun p => Q p.1 (l.put (some p.2) (l.put none e1)) := by
  simp only [RxP_eq, SxP_eq, RsP_eq, SoP_eq, OpP_eq]
  exact rx_bm_0
theorem rx_bm0 {l : Ln ε ι} {g : ι → Unit → Option (α × ι)} : RxP X (mBM0 l g e) Q = OpP (l.get e) fun _ => OpP (l.get e) fun s => OpP (g s ()) fun p => Q p.1 (l.put (some p.2) (l.put none e)) := by
  simp only [RxP_eq, SxP_eq, RsP_eq, SoP_eq, OpP_eq]
  exact rx_bm0_0
theorem sx_setI {l : Ln ε γ} {g : γ → α → β → Option γ} {mi : ε → Rs ε α} {m : ε → Rs ε β} : SxP X (mSetI l g mi m e : So ε ρ) N C B T = RxP X (m e) fun y e1 => OpP (l.get e1) fun _ => RxP X (mi e1) fun x e2 => OpP (l.get e2) fun s => OpP (g s x y) fun s' => N (l.put (some s') (l.put none e2)) := by
  simp only [RxP_eq, SxP_eq, RsP_eq, SoP_eq, OpP_eq]
  exact sx_setI_0
theorem rx_not {m : ε → Rs ε Bool} {Q : Bool → ε → Prop} : RxP X (mNot m e) Q = RxP X (m e) fun b e1 => Q (!b) e1 := by
  simp only [RxP_eq, SxP_eq, RsP_eq, SoP_eq, OpP_eq]
  exact rx_not_0
theorem rx_and {m n : ε → Rs ε Bool} {Q : Bool → ε → Prop} : RxP X (mAnd m n e) Q = RxP X (m e) fun b e1 => if b = true then RxP X (n e1) Q else Q false e1 := by
  simp only [RxP_eq, SxP_eq, RsP_eq, SoP_eq, OpP_eq]
  exact rx_and_0
theorem rx_or {m n : ε → Rs ε Bool} {Q : Bool → ε → Prop} : RxP X (mOr m n e) Q = RxP X (m e) fun b e1 => if b = true then Q true e1 else RxP X (n e1) Q := by
  simp only [RxP_eq, SxP_eq, RsP_eq, SoP_eq, OpP_eq]
  exact rx_or_0
theorem rx_if {c : ε → Rs ε Bool} {m n : ε → Rs ε α} : RxP X (mIf c m n e) Q = RxP X (c e) fun b e1 => if b = true then RxP X (m e1) Q else RxP X (n e1) Q := by
  simp only [RxP_eq, SxP_eq, RsP_eq, SoP_eq, OpP_eq]
  exact rx_if_0
theorem rx_chain {g : α → β → Option Bool} {g' : β → γ → Option Bool} {m : ε → Rs ε α} {n : ε → Rs ε β} {k : ε → Rs ε γ} {Q : Bool → ε → Prop} : RxP X (mChain g g' m n k e) Q = RxP X (m e) fun a e1 => RxP X (n e1) fun b e2 => OpP (g a b) fun c => if c = true then RxP X (k e2) fun d e3 => OpP (g' b d) fun z => Q z e3 else Q false e2 := by
  simp only [RxP_eq, SxP_eq, RsP_eq, SoP_eq, OpP_eq]
  exact rx_chain_0
theorem rx_mSome {m : ε → Rs ε α} {Q : Option α → ε → Prop} : RxP X (mSome m e) Q = RxP X (m e) fun a e1 => Q (some a) e1 := by
  simp only [RxP_eq, SxP_eq, RsP_eq, SoP_eq, OpP_eq]
  exact rx_mSome_0
theorem rx_mNone {m : ε → Rs ε Unit} {Q : Option α → ε → Prop} : RxP X (mNone m e) Q = RxP X (m e) fun a e1 => Q none e1 := by
  simp only [RxP_eq, SxP_eq, RsP_eq, SoP_eq, OpP_eq]
  exact rx_mNone_0
theorem rx_part {m : ε → Rs ε Int} {Q : Option Int → ε → Prop} : RxP X (mPart m e) Q = RxP X (m e) fun a e1 => Q (some a) e1 := by
  simp only [RxP_eq, SxP_eq, RsP_eq, SoP_eq, OpP_eq]
  exact rx_part_0
theorem rx_sl {g : β → Option Int → Option Int → Option α} {m : ε → Rs ε β} {lo hi : ε → Rs ε (Option Int)} : RxP X (mSl g m lo hi e) Q = RxP X (m e) fun b e1 => RxP X (lo e1) fun l e2 => RxP X (hi e2) fun u e3 => OpP (g b l u) fun a => Q a e3 := by
  simp only [RxP_eq, SxP_eq, RsP_eq, SoP_eq, OpP_eq]
  exact rx_sl_0
theorem rx_slL {g : β → Option Int → Option Int → Option α} {l : Ln ε β} {lo hi : ε → Rs ε (Option Int)} : RxP X (mSlL g l lo hi e) Q = OpP (l.get e) fun _ => RxP X (lo e) fun l1 e2 => RxP X (hi e2) fun u e3 => OpP (l.get e3) fun b => OpP (g b l1 u) fun a => Q a e3 := by
  simp only [RxP_eq, SxP_eq, RsP_eq, SoP_eq, OpP_eq]
  exact rx_slL_0
theorem rx_rng1 {m : ε → Rs ε Int} {Q : List Int → ε → Prop} : RxP X (mRng1 m e) Q = RxP X (m e) fun n e1 => bigI n = true ∧ Q (rng 0 n) e1 := by
  simp only [RxP_eq, SxP_eq, RsP_eq, SoP_eq, OpP_eq]
  exact rx_rng1_0
theorem rx_rng2 {m : ε → Rs ε (Int × Int)} {Q : List Int → ε → Prop} : RxP X (mRng2 m e) Q = RxP X (m e) fun n e1 => (bigI n.1 = true ∧ bigI n.2 = true) ∧ Q (rng n.1 n.2) e1 := by
  simp only [RxP_eq, SxP_eq, RsP_eq, SoP_eq, OpP_eq]
  exact rx_rng2_0
theorem rx_enum {m : ε → Rs ε (List α)} {Q : List (Int × α) → ε → Prop} : RxP X (mEnum m e) Q = RxP X (m e) fun xs e1 => Q (enumF xs) e1 := by
  simp only [RxP_eq, SxP_eq, RsP_eq, SoP_eq, OpP_eq]
  exact rx_enum_0
theorem rx_lock {l : Ln ε γ} {m : ε → Rs ε α} : RxP X (mLock l m e) Q = OpP (l.get e) fun x => RsP (m (l.put (some x) e)) fun a e1 => Q a (l.put (some x) (l.put none e1)) := by
  simp only [RxP_eq, SxP_eq, RsP_eq, SoP_eq, OpP_eq]
  exact rx_lock_0
theorem rx_dget2 [DecidableEq κ] {l : Ln ε (List (κ × β))} {m : ε → Rs ε κ} {x : ε → Rs ε β} {Q : β → ε → Prop} : RxP X (mDGet2 l m x e) Q = OpP (l.get e) fun _ => RxP X (m e) fun a e1 => RxP X (x e1) fun b e2 => OpP (l.get e2) fun kbs => Q ((dget kbs a).getD b) e2 := by
  simp only [RxP_eq, SxP_eq, RsP_eq, SoP_eq, OpP_eq]
  exact rx_dget2_0
theorem rx_keys {l : Ln ε (List (κ × β))} {Q : List κ → ε → Prop} : RxP X (mKeys l e) Q = OpP (l.get e) fun kbs => Q (keysOf kbs) e := by
  simp only [RxP_eq, SxP_eq, RsP_eq, SoP_eq, OpP_eq]
  exact rx_keys_0
theorem rx_lc {it : ε → Rs ε (List α)} {pt : α → ε → ε} {tt : ε → Rs ε Bool} {te : ε → Rs ε β} {kill : ε → ε} {rst : ε → ε → ε} {Q : List β → ε → Prop} : RxP X (mLc it pt tt te kill rst e) Q = RxP X (it e) fun xs e1 => xs.length ≤ 1000000 ∧ RxP X (lcR pt tt te kill xs (kill e1) []) fun ys e2 => Q ys (rst e1 e2) := by
  simp only [RxP_eq, SxP_eq, RsP_eq, SoP_eq, OpP_eq]
  exact rx_lc_0
theorem rx_yes {Q : Bool → ε → Prop} : RxP X (mYes e) Q = Q true e := by
  simp only [RxP_eq, SxP_eq, RsP_eq, SoP_eq, OpP_eq]
  exact rx_yes_0
theorem rx_runD {x : So ε ρ} {Q : ρ → Unit → Prop} : RxP X (x.run none) Q = SxP X x (fun _ => False) (fun _ => False) (fun _ => False) fun a _ => Q a () := by
  simp only [RxP_eq, SxP_eq, RsP_eq, SoP_eq, OpP_eq]
  exact rx_runD_0
theorem rx_runDS {x : So ε ρ} {d : ρ} {Q : ρ → Unit → Prop} : RxP X (x.run (some d)) Q = SxP X x (fun _ => Q d ()) (fun _ => False) (fun _ => False) fun a _ => Q a () := by
  simp only [RxP_eq, SxP_eq, RsP_eq, SoP_eq, OpP_eq]
  exact rx_runDS_0
theorem cutX {m n : ε → So ε ρ} (Mid : ε → Prop) (h1 : SxP X (m e) Mid C B T) (h2 : ∀ e1, Mid e1 → SxP X (n e1) N C B T) : SxP X (mCut m n e) N C B T := by
  simp only [RxP_eq, SxP_eq, RsP_eq, SoP_eq, OpP_eq] at *
  exact cutX_0 Mid h1 h2
theorem ifX {c : ε → Rs ε Bool} {m n : ε → So ε ρ} {e' : ε} (p : Prop) (hc : RxP X (c e) fun b e1 => (b = true ↔ p) ∧ e1 = e') (h1 : p → SxP X (m e') N C B T) (h2 : ¬ p → SxP X (n e') N C B T) : SxP X (mIfB c m n e) N C B T := by
  simp only [RxP_eq, SxP_eq, RsP_eq, SoP_eq, OpP_eq] at *
  exact ifX_0 p hc h1 h2
theorem loopX {b : α → ε → So ε ρ} {xs : List α} {e : ε} (P : Nat → ε → Prop) (h0 : P 0 e) (hs : ∀ i x e, xs[i]? = some x → P i e → SxP X (b x e) (P (i + 1)) (P (i + 1)) N T) (hd : ∀ e, P xs.length e → N e) : SxP X (mLoop b xs e) N C B T := by
  simp only [RxP_eq, SxP_eq, RsP_eq, SoP_eq, OpP_eq] at *
  exact loopX_0 P h0 hs hd
theorem loopRX {b : Int → ε → So ε ρ} {n : Nat} {hi : Int} {e : ε} (hn : hi = (n : Int)) (P : Nat → ε → Prop) (h0 : P 0 e) (hs : ∀ (i : Nat) e, i < n → P i e → SxP X (b (i : Int) e) (P (i + 1)) (P (i + 1)) N T) (hd : ∀ e, P n e → N e) : SxP X (mLoop b (rng 0 hi) e) N C B T := by
  simp only [RxP_eq, SxP_eq, RsP_eq, SoP_eq, OpP_eq] at *
  exact loopRX_0 hn P h0 hs hd
theorem sx_raise {c : Str} : SxP X (mRaise c e : So ε ρ) N C B T = X ⟨c, none⟩ := propext ⟨fun h => by cases h with | ex h => exact h, fun h => .ex h⟩
theorem sx_asg {m : ε → Rs ε α} {pt : α → ε → Rs ε Unit} : SxP X (mAsg m pt e : So ε ρ) N C B T = RxP X (m e) fun a e1 => RxP X (pt a e1) fun _ e2 => N e2 := by
  unfold mAsg
  rw [sx_so]
  congr
  funext a e1
  rw [sx_so]
  simp only [sx_nx]
theorem rx_unw {m : ε → Rs ε (Option α)} {Q : α → ε → Prop} : RxP X (mUnw m e) Q = RxP X (m e) fun o e1 => OpP o fun a => Q a e1 := by unfold mUnw; rw [rx_bind]; simp only [rx_of]
theorem rx_callE {f : α → Rs Unit ρ} {m : ε → Rs ε α} {Q : ρ → ε → Prop} : RxP X (mCallE f m e) Q = RxP X (m e) fun a e1 => RxP X (f a) fun b _ => Q b e1 := by
  unfold mCallE
  rw [rx_bind]
  congr
  funext a e1
  rw [RxP_eq, RxP_eq]
  cases f a <;> rfl
theorem rx_out {x : Rs ε α} {Q : α → Unit → Prop} : RxP X x.out Q = RxP X x fun a _ => Q a () := by
  rw [RxP_eq, RxP_eq]
  cases x <;> rfl
theorem rp_out {x : Rs ε α} {Q : α → Unit → Prop} : RsP x.out Q = RsP x fun a _ => Q a () := by
  rw [RsP_eq, RsP_eq]
  cases x <;> rfl
/-- try: y = asked() -/
theorem sp_tryA {ns : List Str} {la : Ln ε (Rs Unit α)} {l : Ln ε (Option Xc)} {le : Ln ε γ} {lf : Ln ε β} {g : α → β} {x : Rs Unit α} {Q : α → Unit → Prop} (ha : la.get e = some x) (h : RxP X x Q) (k : ∀ a u, Q a u → N (lf.put (some (g a)) e)) (k' : ∀ c, X c → c.name ∈ ns ∧ N (le.put none (l.put (some (some c)) (le.put none e)))) :
    SoP (mTryA ns la l le lf g e : So ε ρ) N C B T := by
  unfold mTryA
  rw [ha]
  cases h with
  | mk h => exact .nx (k _ _ h)
  | ex h =>
    dsimp only
    rw [if_pos (k' _ h).1]
    exact .nx (k' _ h).2
/-- try: f(..) -/
theorem sp_tryC {ns : List Str} {l : Ln ε (Option Xc)} {le : Ln ε γ} {f : α → Rs Unit β} {m : ε → Rs ε α} {x : α} {e1 : ε} {Q : β → Unit → Prop} (hm : m e = .ok x e1) (h : RxP X (f x) Q) (k : ∀ a u, Q a u → N e1) (k' : ∀ c, X c → c.name ∈ ns ∧ N (le.put none (l.put (some (some c)) (le.put none e1)))) :
    SoP (mTryD ns l le (mCallE f m) e : So ε ρ) N C B T := by
  have e2 : mCallE f m e = match f x with | .ok b _ => Rs.ok b e1 | .ex c _ => .ex c e1 | .bad => .bad := by
    unfold mCallE
    rw [hm]
    rfl
  unfold mTryD
  rw [e2]
  generalize f x = z at h
  cases h with
  | mk h => exact .nx (k _ _ h)
  | ex h =>
    dsimp only
    rw [if_pos (k' _ h).1]
    exact .nx (k' _ h).2
theorem RsP.evi {x : Rs ε α} (h : (match x with | .ok _ _ => true | _ => false) = true) (Q : α → ε → Prop) (q : ∀ a e, x = .ok a e → Q a e) : RsP x Q := by
  cases x with
  | ok a e => exact .mk (q _ _ rfl)
  | ex c e => cases h
  | bad => cases h
end
/-! # Texts of things: bounds for repr; the words of what was raised -/
def Okd (n : Nat) (d : PyData) : Prop := small 80 d = true ∧ cost 80 d ≤ n
theorem Okd.rp {n : Nat} {d : PyData} (h : Okd n d) (hn : n ≤ 16777216) : rpOk d = true := by
  unfold rpOk
  rw [Bool.and_eq_true_iff, decide_eq_true_iff]
  exact ⟨h.1, Nat.le_trans h.2 hn⟩
theorem Okd.mono {n m : Nat} {d : PyData} (h : Okd n d) (hn : n ≤ m) : Okd m d := ⟨h.1, Nat.le_trans h.2 hn⟩
/-- a number of at most thirty figures -/
def Bd30 (x : Int) : Prop := -1000000000000000000000000000000 < x ∧ x < 1000000000000000000000000000000
theorem abs80 {x : Int} (h : Bd30 x) : x.natAbs < 10 ^ 80 := by
  unfold Bd30 at h
  have : x.natAbs < 1000000000000000000000000000000 := by omega
  exact Nat.lt_trans this (by decide)
theorem okd_int {x : Int} (h : x.natAbs < 10 ^ 80) : Okd 81 (.int x) := ⟨by unfold small; exact decide_eq_true h, by unfold cost; exact Nat.le_refl _⟩
theorem okd_none : Okd 4 .none := ⟨by unfold small; rfl, by unfold cost; exact Nat.le_refl _⟩
theorem okd_bool {b : Bool} : Okd 5 (.bool b) := ⟨by unfold small; rfl, by unfold cost; exact Nat.le_refl _⟩
theorem okd_str {s : Str} {n : Nat} (h : (reprText s).length ≤ n) : Okd n (.str s) := ⟨by unfold small; rfl, by unfold cost; exact h⟩
theorem okd_tup {m k : Nat} {xs : List PyData} (h : ∀ x ∈ xs, Okd m x) (hl : xs.length ≤ k) : Okd ((m + 2) * k + 4) (.tuple xs) := by
  constructor
  · unfold small
    rw [smallAll_iff]
    exact fun x hx => (h x hx).1
  · unfold cost
    have h1 := costAll_le (k := 80) (m := m) fun x hx => (h x hx).2
    have h2 : (m + 2) * xs.length ≤ (m + 2) * k := Nat.mul_le_mul_left _ hl
    omega
theorem okd_lst {m k : Nat} {xs : List PyData} (h : ∀ x ∈ xs, Okd m x) (hl : xs.length ≤ k) : Okd ((m + 2) * k + 4) (.list xs) := by
  constructor
  · unfold small
    rw [smallAll_iff]
    exact fun x hx => (h x hx).1
  · unfold cost
    have h1 := costAll_le (k := 80) (m := m) fun x hx => (h x hx).2
    have h2 : (m + 2) * xs.length ≤ (m + 2) * k := Nat.mul_le_mul_left _ hl
    omega
theorem okd_face {f : List Int} {k : Nat} (hl : f.length ≤ k) (h : ∀ x ∈ f, x.natAbs < 10 ^ 80) : Okd (83 * k + 4) ((enT enI).enc f) := okd_tup (m := 81) (fun x hx => by
  obtain ⟨y, hy, rfl⟩ := List.mem_map.mp hx
  exact okd_int (h y hy)) (by rw [List.length_map]; exact hl)
theorem okd_shape {sh : List (List Int)} {k n : Nat} (hl : sh.length ≤ n) (h : ∀ p ∈ sh, p.length ≤ k ∧ ∀ x ∈ p, x.natAbs < 10 ^ 80) : Okd ((83 * k + 6) * n + 4) ((enT (enT enI)).enc sh) := okd_tup (m := 83 * k + 4) (fun x hx => by
  obtain ⟨y, hy, rfl⟩ := List.mem_map.mp hx
  exact okd_face (h y hy).1 (h y hy).2) (by rw [List.length_map]; exact hl)
section
variable {ε α β : Type}
theorem op_reprE {E : Er α} {a : α} {Q : Str → Prop} (h : rpOk (E.enc a) = true) (q : Q (E.enc a).shown) : OpP (gReprE E a) Q := by
  unfold gReprE
  rw [if_pos h]
  exact .mk q
theorem rs_dec {x : Rs ε Str} {n : Str} (h : (match x with | .ok s _ => decide (s = n) | _ => false) = true) : RsP x fun r _ => r = n := by
  cases x with
  | ok a e => exact .mk (of_decide_eq_true h)
  | ex c e => cases h
  | bad => cases h
end
/-! # list.extend of a tuple -/
open PySem.AutoSeq1
theorem ext_tup (l : Addr) (items : Array Value) (n : Nat) (b : Addr) (items2 : Array Value) (n2 : Nat) (dct : Option Addr) (sl : Array (Option Value)) (hs0 : ¬(!items.isEmpty && Builtin.List.listTooLong (items.size + items2.size)) = true) (hs1 : items.size ≤ sizeLine) (hs2 : items.size + items2.size ≤ sizeLine + 1) :
    Meets (Builtin.«list.extend» ⟨[.ref l, .ref b], []⟩) (fun _ R s => s.heap.get? l = some { cls := .type "list", dict := none, data := .seq items n, slots := #[] } ∧ s.heap.get? b = some { cls := .type "tuple", dict := dct, data := .seq items2 n2, slots := sl } ∧ R (.ok (.ret Value.none)) { s with heap := s.heap.update l (Obj.mapSeq fun x => x ++ items2), toks := s.toks }) :=
  .of_wp fun prog w A R s h => by
    obtain ⟨hp, g, d, tk, os⟩ := s; obtain ⟨hl, hb, h⟩ := h; have f1 := idx_int; have f2 := AutoSeq1.sub_tuple_tuple; have f3 := AutoSeq1.sub_list_list; have f4 := AutoSeq1.sub_tuple_list; have f5 := AutoSeq1.sub_list_tuple;
    have hz' : (items ++ items2).size ≤ sizeLine + 1 := by rw [Array.size_append]; exact hs2
    wp_walk using (wpAny_updateSeq hl rfl (hz := hs1) (_hz' := hz')), wpAny_loadPart' hl, wpAny_loadPart' hb; exact ⟨_, rfl, h⟩
section
variable {X : Cx}
def rExtendT : V → List V → Hp → VK → Prop := fun x vs H Q => ∃ l b xs zs, x = .ref l ∧ vs = [.ref b] ∧ H l = some (.lst xs) ∧ H b = some (.tup zs) ∧ xs.length + zs.length ≤ sizeLine ∧ Q .non (upd H l (.lst (xs ++ zs)))
theorem mt_extendT : MtM X "list.extend" rExtendT := by
  intro pins s σ H x vs v us Q I rx rv h
  obtain ⟨l, b, xs, zs, rfl, rfl, hH, hB, hz, q⟩ := h
  cases rx
  obtain ⟨u, rfl, ru⟩ := rv.one
  cases ru
  obtain ⟨z, its, n, r, hl, e⟩ := I.lstM hH
  obtain ⟨z2, its2, r2, ⟨⟨cl, dct, dat, sl⟩, e2, hc, n2, hd⟩⟩ := I.hok b _ hB
  have hl2 := r2.length
  dsimp only at hc hd
  subst hc hd
  have hsz : its.toArray.size + its2.toArray.size ≤ sizeLine := by rw [List.size_toArray, List.size_toArray]; omega
  have hlong : ¬ (!its.toArray.isEmpty && Builtin.List.listTooLong (its.toArray.size + its2.toArray.size)) = true := by
    rw [notLongL hsz, Bool.and_false]
    exact Bool.false_ne_true
  refine call_meets F.slot_list_extend ⟨_, e, rfl⟩ F.entry_list_extend (F.args_list_extend_2 _ _)
    (ext_tup l its.toArray n b its2.toArray n2 dct sl hlong (by rw [List.size_toArray]; omega) (by omega)) ⟨e, e2, ?_⟩
  refine ⟨.non, _, I.lset (its' := its ++ its2) hH e (by simp) (r.append r2) ?_, rfl, q⟩
  rw [List.length_append]
  omega
end
section
variable {K : PySem.W.Frag} {α : Type}
theorem v_extT {r : Rep α} : VM K rExtendT (oL r) (gOne (rT r)) rN gExt := fun G H L ho st vs a b st' Q s h1 h2 ⟨ws, h3, h4⟩ ⟨v, h5, L', ho', h6, h7, us, h8, h9⟩ hg k => by
  subst h3 h5 h6 h8
  obtain ⟨hz, e⟩ := of_ite hg
  cases e
  exact ⟨L, L', ws, us, rfl, rfl, h1, s _ _ h7, by rw [h4.length, h9.length, sizeLine_eq]; omega, k _ _ ⟨_, rfl, h4.app h9⟩ rfl⟩
end
/-! ## a list or tuple of two, taken as two things -/
def gTwo {α : Type} (xs : List α) : Option (α × α) := match xs with
  | [a, b] => some (a, b)
  | _ => none
theorem c_twoL {α : Type} {r : Rep α} : CastR (rz (oL r)) (rz (oL2 r r)) gTwo := fun K G v a b ⟨L, ho, h1, h2, vs, h3, h4⟩ e => by
  match a, e with
  | [x, y], e =>
    cases e
    cases h4 with
    | cons p h4 =>
      cases h4 with
      | cons q h4 =>
        cases h4
        exact ⟨L, ho, h1, h2, _, _, h3, p, q⟩
theorem c_twoT {α : Type} {r : Rep α} : CastR (rz (oT r)) (rz (oT2 r r)) gTwo := fun K G v a b ⟨L, ho, h1, h2, vs, h3, h4⟩ e => by
  match a, e with
  | [x, y], e =>
    cases e
    cases h4 with
    | cons p h4 =>
      cases h4 with
      | cons q h4 =>
        cases h4
        exact ⟨L, ho, h1, h2, _, _, h3, p, q⟩
/-! ## the end of a law with lambdas -/
theorem lawT_end {l : PySem.W.OpenLaw} {w : World} {K : PySem.W.Frag} {mg : Str → Option Value} {fa : Addr} {x : Str} {k n : Nat} {q : Program} {sp : Addr → Sp} (m : Str)
    (h : ∀ c Pt, PySem.W.tabIn K m = some (c, Pt) → ∃ fd : FuncData, (∀ (s : Shared) (u : Value), BindsTo s fd ⟨[u], []⟩ [(x, u)]) ∧ ∀ base : Heap, K.In base → base.Ns mainGlobals mg → LamX.TabB base mg c Pt → FnG l.prog w K mg base k fa fd [x] (sp Pt))
    (tr : ((recsOf q).any fun e => e.name == m) = true) (tb : (match PySem.W.tabIn K m with | some p => (K.lookup p.2).isNone | none => false) = true)
    (go : ∀ (H : Hp) (a : Addr) (ns : List Int) (Pt : Addr), Fz K H a (ns.map V.int) → H Pt = some (.tbl #[]) → (∀ b xs, H b ≠ some (.tup xs)) → Pt ≠ a → sp Pt [.ref a] H (fun v _ => v = .bl true) fun _ _ _ => False) :
    ∃ (fd : FuncData) (cs : List (Str × Addr × Addr)) (sp : Sp), (∀ p ∈ cs, ((recsOf q).any fun e => e.name == p.1) = true ∧ PySem.W.tabIn K p.1 = some p.2 ∧ K.lookup p.2.2 = none) ∧ (∀ (s : Shared) (u : Value), BindsTo s fd ⟨[u], []⟩ [(x, u)]) ∧
        (∀ base : Heap, K.In base → base.Ns mainGlobals mg → (∀ p ∈ cs, LamX.TabB base mg p.2.1 p.2.2) → FnG l.prog w K mg base k fa fd [x] sp) ∧
        ∀ (H : Hp) (a : Addr) (ns : List Int), ns.length ≤ n → Fz K H a (ns.map V.int) → (∀ p ∈ cs, H p.2.2 = some (.tbl #[])) → (∀ b xs, H b ≠ some (.tup xs)) → (∀ p ∈ cs, p.2.2 ≠ a) → sp [.ref a] H (fun v _ => v = .bl true) fun _ _ _ => False := by
  cases e : PySem.W.tabIn K m with
  | none => rw [e] at tb; cases tb
  | some p =>
    obtain ⟨c, Pt⟩ := p
    rw [e] at tb
    exact lawT_fin m (h c Pt e) tr e (Option.isNone_iff_eq_none.mp tb) go
/-! # sorted(set of ints), any number of them -/
section
variable {P : Program} {w : World} {A : Around} {E : Value → Shared → Prop} {s : Shared}
theorem each_raw : ∀ {vs : List Value}, (∀ v ∈ vs, ∃ k t, v = .int k t) → PySem.W.EachIs (fun v (b : Int) => RelV (.int b) v) vs (vs.map Builtin.Re.reRawOf)
  | [], _ => .nil
  | v :: vs, h => by
    obtain ⟨k, t, rfl⟩ := h v List.mem_cons_self
    exact .cons ⟨t, rfl⟩ (each_raw fun v hv => h v (List.mem_cons_of_mem _ hv))
theorem sorted_setG {a : Addr} {ns : List Int} {n : Nat} {Q : Value → Shared → Prop} (R : SetR w s.heap a (fun j => decide (j ∈ ns)) n) (hh : A.handled = none) (hu : A.units + 64 < cLine)
    (hQ : ∀ s' p (out : Array Value) (c : Nat), (∀ b o, s.heap.get? b = some o → s'.heap.get? b = some o) → s'.gens = s.gens → s'.os = s.os → s.heap.objs.size ≤ p →
      s'.heap.get? p = some (seqObj "list" out c) → Vals ((sset ns).map V.int) out.toList → Q (.ref p) s') :
    wpAny (model P w) A (call (.builtin "sorted") [.ref a]) Q E s := by
  obtain ⟨o, es, ep, t, ho, hex, hd, g, nd, hm, hb, hf, hn, hr, hl⟩ := R
  refine Calls.call_function_entry kind_sorted plain_sorted entry_sorted (args_sorted1 _) ?_
  unfold Builtin.«sorted»
  refine wpAny_bind (m := checkCount "sorted" 1 1 _) (wpAny_pure ?_)
  refine wpAny_bind (collect_set (A := A.in1) hh ⟨o, ho, hex.1, hd⟩ hf hb hr hl fun s1 vs k1 hz g1 o1 pm => ?_)
  have hvl : vs.length = es.size := by rw [pm.length_eq, List.length_map, Array.length_toList]
  have hvL : vs.length ≤ sizeLine := by rw [hvl]; unfold scanBound at hb; rw [sizeLine_eq]; omega
  have e := each_raw (vs := vs) fun v hv => by
    obtain ⟨e, he, q⟩ := List.mem_map.mp (pm.mem_iff.mp hv)
    obtain ⟨k, tk, h1, _⟩ := g e he
    exact ⟨k, tk, by rw [← q]; exact h1⟩
  have pk : (vs.map Builtin.Re.reRawOf).Perm (es.toList.map keyOf) := by
    have q := pm.map Builtin.Re.reRawOf
    rw [List.map_map] at q
    exact q
  refine wpAny_bind (wpAny_newList ?_ hvL)
  have hoL : (s1.heap.push (seqObj "list" vs.toArray 0)).get? s1.heap.objs.size = some (seqObj "list" vs.toArray 0) := Heap.get?_push_size _ rfl
  generalize hns : vs.map Builtin.Re.reRawOf = ms at e pk
  have er' := ints_reads (h := PySem.W.sortingHeap (s1.heap.push (seqObj "list" vs.toArray 0)) s1.heap.objs.size vs) e
  have hal : PySem.W.AllAlike (ms.map PyData.int) := by
    intro d hd d' hd'
    obtain ⟨b, _, rfl⟩ := List.mem_map.mp hd
    obtain ⟨b', _, rfl⟩ := List.mem_map.mp hd'
    rfl
  have S := PySem.W.SortsAt.data (prog := P) (w := w) (A := A.in1.in1) (s := { s1 with heap := PySem.W.sortingHeap (s1.heap.push (seqObj "list" vs.toArray 0)) s1.heap.objs.size vs })
    (PySem.W.each_map (R := fun v d => ∃ as, Reads (PySem.W.sortingHeap (s1.heap.push (seqObj "list" vs.toArray 0)) s1.heap.objs.size vs) v d as) PyData.int er') hal (.inr fun d hd => by
      obtain ⟨b, _, rfl⟩ := List.mem_map.mp hd
      exact ⟨(fun z => nomatch z), (fun xs z => nomatch z)⟩) (fun d hd => by
      obtain ⟨b, _, rfl⟩ := List.mem_map.mp hd
      have h2 : A.in1.in1.units = A.units + 2 := rfl
      have h3 : (PyData.int b).depth = 0 := by simp [PyData.depth]
      omega)
  have eo := PySem.W.sortVals_data false e er' hal
  refine wpAny_bind (wpAny_holding (wpAny_call_entry slot_list_sort ⟨_, hoL, rfl⟩ entry_list_sort (PySem.W.list_sort_vals (s := { s1 with heap := s1.heap.push (seqObj "list" vs.toArray 0) }) hoL S hvL ⟨.none, rfl, ?_⟩) (args_list_sort _)))
  generalize PySem.W.sortVals (PySem.W.dataKind (PySem.W.sortingHeap (s1.heap.push (seqObj "list" vs.toArray 0)) s1.heap.objs.size vs) (ms.map PyData.int)) false vs vs = out at eo ⊢
  have e2 : PySem.W.dataLe false PyData.int = leI := PySem.W.dataLe_int id
  rw [e2] at eo
  obtain ⟨c, hc⟩ := sortedHeap_at (vs := vs) (out := out.toArray) hoL
  have hs : ms.mergeSort leI = sset ns := by
    have p1 : (ms.mergeSort leI).Perm (es.toList.map keyOf) := (List.mergeSort_perm _ _).trans pk
    refine rise_eq ?_ (sset_pw ns) fun z => ?_
    · have h1 : (srt ms).Pairwise (· ≤ ·) := srt_pw ms
      have h2 : (ms.mergeSort leI).Nodup := p1.nodup_iff.mpr nd
      exact lt_of_le_nodup _ h1 h2
    · rw [p1.mem_iff, ← hm z, sset_mem, decide_eq_true_iff]
  rw [hs] at eo
  refine wpAny_pure ⟨_, rfl, hQ _ s1.heap.objs.size out.toArray c (fun b u e => ?_) g1 o1 hz hc (ints_each eo)⟩
  have q := k1 b u e
  have hlt := Heap.lt_size q
  show (sortedHeap (s1.heap.push (seqObj "list" vs.toArray 0)) s1.heap.objs.size vs out.toArray).get? b = some u
  rw [sortedHeap_old (Nat.ne_of_lt hlt) (by rw [size_push']; exact Nat.lt_succ_of_lt hlt)]
  exact Heap.get?_push_of_some _ q
end
section
variable {X : Cx}
def rSortedSetG (w : World) : List V → Hp → VK → Prop := fun vs H Q => ∃ (a : Addr) (ns : List Int) (n : Nat), vs = [V.ref a] ∧ H a = some (SetO w a (fun j => decide (j ∈ ns)) n) ∧ ns.length ≤ 100000 ∧
  ∀ p : Addr, H p = none → Q (.ref p) (upd H p (.lst ((sset ns).map V.int)))
theorem insS_le (x : Int) : ∀ l : List Int, (insS x l).length ≤ l.length + 1
  | [] => by simp [insS]
  | y :: l => by
    have ih := insS_le x l
    unfold insS
    split
    · simp
    · split
      · simp
      · simp; omega
theorem sset_le : ∀ l : List Int, (sset l).length ≤ l.length
  | [] => by simp [sset]
  | x :: l => by
    have ih := sset_le l
    have := insS_le x (sset l)
    show (insS x (sset l)).length ≤ _
    rw [List.length_cons]
    omega
theorem cr_sortedSetG (hc : X.calm = true) (hu : X.A.units + 64 < cLine) : CallR X (.builtin "sorted") (rSortedSetG X.w) := by
  intro pins s σ H vs us Q I r h
  obtain ⟨a, ns, n, rfl, ha, hl, q⟩ := h
  have R := setO_get I ha
  rw [Vals.ref1 r]
  refine sorted_setG R (I.ok.hd hc) hu fun s' p out c k g o hp hg hv => ?_
  have hlen : ((sset ns).map V.int).length ≤ sizeLine := by
    have := sset_le ns
    rw [List.length_map, sizeLine_eq]
    omega
  have hn : H p = none := I.hok.fresh hp
  have J : Inv X pins σ (upd H p (.lst ((sset ns).map V.int))) { s with heap := s'.heap, gens := s'.gens, drawn := s'.drawn, toks := s'.toks } :=
    I.call (ch := []) (Un.laid k hp hn) (I.hok.laid k hp ⟨hlen, out.toList, c, hv, hg⟩) (by rw [g]; exact I.bare) (fun _ z => nomatch z)
  have e : s' = { s with heap := s'.heap, gens := s'.gens, drawn := s'.drawn, toks := s'.toks } := by
    cases s'
    cases s
    cases o
    rfl
  rw [e]
  exact ⟨.ref p, _, J, rfl, q p hn⟩
variable {K : PySem.W.Frag} {w : World}
def gSsetG (ns : List Int) : Option (List Int) := if ns.length ≤ 100000 then some (sset ns) else none
theorem v_sortSetG : VF K (rSortedSetG w) (aOne (ir (rSet w))) (oL rI) gSsetG := fun G H v a b Q s ⟨x, h0, L, c, h1, h2, h3⟩ hg k => by
  subst h0 h1
  obtain ⟨hz, rfl⟩ := of_ite hg
  exact ⟨L, a, c, rfl, s _ _ h2, hz, fun p hp => k p _ G _ (.own s hp) hp (s.no hp) upd_same ⟨_, rfl, .ofMap fun _ _ => rfl⟩⟩
end
section
variable {ε α β : Type}
/-- a comprehension whose test and items change something -/
theorem lcT {pt : α → ε → ε} {tt : ε → Rs ε Bool} {te : ε → Rs ε β} {kill : ε → ε} {xs : List α} {e : ε} {Q : List β → ε → Prop} (P : Nat → List β → ε → Prop) (h0 : P 0 [] e)
    (h : ∀ i x acc e, xs[i]? = some x → P i acc e → RsP (tt (pt x e)) fun b e1 => if b = true then RsP (te e1) fun y e2 => P (i + 1) (acc ++ [y]) (kill e2) else P (i + 1) acc (kill e1)) (q : ∀ acc e, P xs.length acc e → Q acc e) : RsP (lcR pt tt te kill xs e []) Q := by
  suffices hh : ∀ (ys : List α) (i : Nat) (acc : List β) (e : ε), (∀ j x, ys[j]? = some x → xs[i + j]? = some x) → i + ys.length = xs.length → P i acc e → RsP (lcR pt tt te kill ys e acc) Q from hh xs 0 [] e (fun j x h => by simpa using h) (by simp) h0
  intro ys
  induction ys with
  | nil => intro i acc e _ hl p; simp at hl; exact .mk (q acc e (hl ▸ p))
  | cons y ys ih =>
    intro i acc e hx hl p
    obtain ⟨b, e1, h1, h2⟩ := (h i y acc e (by simpa using hx 0 y rfl) p).ex
    have hx' : ∀ j x, ys[j]? = some x → xs[i + 1 + j]? = some x := fun j x h => by rw [Nat.add_assoc, Nat.add_comm 1 j]; exact hx (j + 1) x (by simpa using h)
    have hl' : i + 1 + ys.length = xs.length := by simp at hl; omega
    unfold lcR
    rw [h1, Rs.bindN_ok]
    cases b with
    | false =>
      simp only [Bool.false_eq_true, if_false] at h2 ⊢
      exact ih (i + 1) _ _ hx' hl' h2
    | true =>
      simp only [if_true] at h2 ⊢
      obtain ⟨z, e2, h3, h4⟩ := h2.ex
      rw [h3, Rs.bindN_ok]
      exact ih (i + 1) _ _ hx' hl' h4
/-- a choice by numbers is a choice of the things -/
theorem by_nums {xs : List α} {d : α} {p : α → Bool} {f : α → β} : ((rng 0 xs.length).filter fun k => p (xs[k.toNat]?.getD d)).map (fun k => f (xs[k.toNat]?.getD d)) = (xs.filter p).map f := by
  have e : (rng 0 xs.length).map (fun k => xs[k.toNat]?.getD d) = xs := by
    apply List.ext_getElem?
    intro i
    unfold rng
    rw [List.map_map, List.getElem?_map]
    by_cases h : i < xs.length
    · rw [List.getElem?_range (by omega)]
      simp [h]
    · rw [List.getElem?_eq_none (by simp; omega), List.getElem?_eq_none (by omega)]
      rfl
  have e2 := congrArg (fun l => (l.filter p).map f) e
  rw [List.filter_map, List.map_map] at e2
  exact e2
end
/-! # repr of things of any kind -/
mutual
def Th.enc : Th → PyData
  | .int i => .int i
  | .bl b => .bool b
  | .non => .none
  | .str s => .str s
  | .lst xs => .list (encAll xs)
  | .tup xs => .tuple (encAll xs)
  | .dic kvs => .dict (encKv kvs)
  | .dct kvs => .dict (encKt kvs)
def encAll : List Th → List PyData
  | [] => []
  | x :: xs => x.enc :: encAll xs
def encKv : List (Int × Th) → List (PyData × PyData)
  | [] => []
  | (k, x) :: xs => (.int k, x.enc) :: encKv xs
def encKt : List (List Int × Th) → List (PyData × PyData)
  | [] => []
  | (k, x) :: xs => (.tuple (k.map PyData.int), x.enc) :: encKt xs
end
section
variable {X : Cx} {pins : List (Addr × Obj)} {σ : L2.St} {H : Hp} {s : Shared}
/-- a list that is tracked doesn't stand where sys.modules stands -/
def SMod (base : Heap) : Prop := ∃ m, base.Ns sysModules m
theorem SMod.no (sm : SMod X.base) (I : Inv X pins σ H s) : H sysModules = none := by
  obtain ⟨m, o, es, ep, e, _⟩ := sm
  exact (I.bs _ _ e).2
theorem ints_readsAll {h : Heap} : ∀ {ns : List Int} {us : List Value}, Vals (ns.map V.int) us → ReadsAll h us (ns.map PyData.int) []
  | [], _, r => by cases r; exact .nil
  | n :: ns, _, r => by
    cases r with
    | cons r1 r2 =>
      obtain ⟨t, rfl⟩ := r1
      exact ReadsAll.cons (as := []) (bs := []) (Reads.int n t) (ints_readsAll r2)
mutual
theorem th_reads (I : Inv X pins σ H s) (sm : H sysModules = none) : ∀ (t : Th) (v : V) (u : Value), thR H v t → RelV v u → ∃ as, Reads s.heap u t.enc as ∧ sysModules ∉ as
  | .int i, v, u, h, r => by
    unfold thR at h
    subst h
    obtain ⟨t, rfl⟩ := r
    unfold Th.enc
    exact ⟨[], .int i t, by simp⟩
  | .bl b, v, u, h, r => by
    unfold thR at h
    subst h
    cases r
    unfold Th.enc
    exact ⟨[], .bool b, by simp⟩
  | .non, v, u, h, r => by
    unfold thR at h
    subst h
    cases r
    unfold Th.enc
    exact ⟨[], .none, by simp⟩
  | .str x, v, u, h, r => by
    unfold thR at h
    subst h
    obtain ⟨t, rfl⟩ := r
    unfold Th.enc
    exact ⟨[], .str x t, by simp⟩
  | .lst xs, v, u, h, r => by
    unfold thR at h
    obtain ⟨L, vs, rfl, h2, h3⟩ := h
    cases r
    obtain ⟨z, its, n, rv, hl, e⟩ := I.lstM h2
    obtain ⟨as, q1, q2⟩ := th_readsAll I sm xs vs its h3 rv
    unfold Th.enc
    refine ⟨L :: as, Reads.list e rfl rfl q1, ?_⟩
    rw [List.mem_cons]
    rintro (e | e)
    · rw [← e, sm] at h2
      cases h2
    · exact q2 e
  | .tup xs, v, u, h, r => by
    unfold thR at h
    obtain ⟨L, vs, rfl, h2, h3⟩ := h
    cases r
    obtain ⟨z, its, rv, ⟨o, ho, hc, n, hd⟩⟩ := I.hok L _ h2
    obtain ⟨as, q1, q2⟩ := th_readsAll I sm xs vs its h3 rv
    unfold Th.enc
    exact ⟨as, Reads.tuple ho hc hd q1, q2⟩
  | .dic kvs, v, u, h, r => by
    unfold thR at h
    obtain ⟨L, ws, rfl, h2, h3⟩ := h
    cases r
    obtain ⟨z, zs, vs, rv, ⟨o, es, ep, ho, hx, hd, hk, hp, nd⟩⟩ := I.hok L _ h2
    obtain ⟨as, bs, q1, q2, q3⟩ := th_readsKv I sm kvs ws vs es.toList h3 rv hp
    unfold Th.enc
    refine ⟨L :: as ++ bs, Reads.dict ho hx.1 hd q1 q2, ?_⟩
    rw [List.cons_append, List.mem_cons]
    rintro (e | e)
    · rw [← e, sm] at h2
      cases h2
    · exact q3 e
  | .dct kvs, v, u, h, r => by
    unfold thR at h
    obtain ⟨L, ws, rfl, h2, h3⟩ := h
    cases r
    obtain ⟨z, zs, xs, rv, ⟨o, es, ep, ho, hx, hd, hk, nd⟩⟩ := I.hok L _ h2
    obtain ⟨as, bs, q1, q2, q3⟩ := th_readsKt I sm kvs ws xs h3 rv
    rw [← hk] at q1 q2
    unfold Th.enc
    refine ⟨L :: as ++ bs, Reads.dict ho hx.1 hd q1 q2, ?_⟩
    rw [List.cons_append, List.mem_cons]
    rintro (e | e)
    · rw [← e, sm] at h2
      cases h2
    · exact q3 e
theorem th_readsAll (I : Inv X pins σ H s) (sm : H sysModules = none) : ∀ (ts : List Th) (vs : List V) (us : List Value), thRs H vs ts → Vals vs us → ∃ as, ReadsAll s.heap us (encAll ts) as ∧ sysModules ∉ as
  | [], vs, us, h, r => by
    unfold thRs at h
    subst h
    cases r
    unfold encAll
    exact ⟨[], .nil, by simp⟩
  | t :: ts, vs, us, h, r => by
    unfold thRs at h
    obtain ⟨v, ws, rfl, h1, h2⟩ := h
    cases r with
    | cons r1 r2 =>
      obtain ⟨as, q1, q2⟩ := th_reads I sm t v _ h1 r1
      obtain ⟨bs, p1, p2⟩ := th_readsAll I sm ts ws _ h2 r2
      unfold encAll
      exact ⟨as ++ bs, .cons q1 p1, by rw [List.mem_append]; exact fun z => z.elim q2 p2⟩
theorem th_readsKv (I : Inv X pins σ H s) (sm : H sysModules = none) : ∀ (kvs : List (Int × Th)) (ws : List (Key × V)) (vs : List (Key × Value)) (es : List DictEntry), thRd H ws kvs → KV ws vs → Pairs (mixKind X.prog X.w) es vs →
    ∃ as bs, ReadsAll s.heap (es.map (·.key)) ((encKv kvs).map (·.1)) as ∧ ReadsAll s.heap (es.map (·.val)) ((encKv kvs).map (·.2)) bs ∧ sysModules ∉ as ++ bs
  | [], ws, vs, es, h, r, p => by
    unfold thRd at h
    subst h
    cases r
    cases p
    unfold encKv
    exact ⟨[], [], .nil, .nil, by simp⟩
  | (k, t) :: kvs, ws, vs, es, h, r, p => by
    unfold thRd at h
    obtain ⟨v, ws', rfl, h1, h2⟩ := h
    cases r with
    | cons r1 r2 =>
      cases p with
      | cons p1 p1' p2 =>
        obtain ⟨as, bs, q1, q2, q3⟩ := th_readsKv I sm kvs ws' _ _ h2 r2 p2
        obtain ⟨cs, d1, d2⟩ := th_reads I sm t v _ h1 r1.2
        rename_i kv _ e0 _
        have hk : keyIs kv.1 e0.key = true := p1
        rw [← r1.1] at hk
        rcases keyIs_shape hk with ⟨i, tk, e1, e2⟩ | ⟨x, tk, e1, e2⟩
        · cases e1
          unfold encKv
          refine ⟨[] ++ as, cs ++ bs, .cons (show Reads s.heap e0.key (.int k) [] by rw [e2]; exact Reads.int k tk) q1, .cons (show Reads s.heap e0.val t.enc cs by rw [p1']; exact d1) q2, ?_⟩
          simp only [List.nil_append, List.mem_append] at q3 ⊢
          rintro (z | z | z)
          · exact q3 (.inl z)
          · exact d2 z
          · exact q3 (.inr z)
        · cases e1
theorem th_readsKt (I : Inv X pins σ H s) (sm : H sysModules = none) : ∀ (kvs : List (List Int × Th)) (ws : List (List Key × V)) (xs : List (List Key × Addr × Value)), thRt H ws kvs → Paired (fun (p : List Key × V) (q : List Key × Addr × Value) => p.1 = q.1 ∧ H q.2.1 = some (.tup (p.1.map kV)) ∧ RelV p.2 q.2.2) ws xs →
    ∃ as bs, ReadsAll s.heap ((xs.map (entryOfKey (tupleKind (mixKind X.prog X.w)))).map (·.key)) ((encKt kvs).map (·.1)) as ∧ ReadsAll s.heap ((xs.map (entryOfKey (tupleKind (mixKind X.prog X.w)))).map (·.val)) ((encKt kvs).map (·.2)) bs ∧ sysModules ∉ as ++ bs
  | [], ws, xs, h, r => by
    unfold thRt at h
    subst h
    cases r
    unfold encKt
    exact ⟨[], [], .nil, .nil, by simp⟩
  | (k, t) :: kvs, ws, xs, h, r => by
    unfold thRt at h
    obtain ⟨v, ws', rfl, h1, h2⟩ := h
    cases r with
    | cons r1 r2 =>
      obtain ⟨as, bs, q1, q2, q3⟩ := th_readsKt I sm kvs ws' _ h2 r2
      obtain ⟨cs, d1, d2⟩ := th_reads I sm t v _ h1 r1.2.2
      have hk := r1.2.1
      rw [show (k.map (Sum.inl : Int → Key)).map kV = k.map V.int by rw [List.map_map]; rfl] at hk
      obtain ⟨z, its, rv, ⟨o, ho, hc, n, hd⟩⟩ := I.hok _ _ hk
      unfold encKt
      refine ⟨[] ++ as, cs ++ bs, .cons (Reads.tuple ho hc hd (ints_readsAll rv)) q1, .cons d1 q2, ?_⟩
      simp only [List.nil_append, List.mem_append] at q3 ⊢
      rintro (z | z | z)
      · exact q3 (.inl z)
      · exact d2 z
      · exact q3 (.inr z)
end
end
/-! ## the rule -/
def rReprT : List V → Hp → VK → Prop := fun xs H Q => ∃ (v : V) (t : Th), xs = [v] ∧ thR H v t ∧ t.enc.showable = true ∧ t.enc.depth ≤ 60 ∧ t.enc.shown.length ≤ 16777216 ∧ Q (.str t.enc.shown) H
theorem call_reprT {X : Cx} (hg : X.A.guards = some []) (hu : X.A.units + 64 < cLine) (sm : SMod X.base) : CallR X (.builtin "repr") rReprT := by
  intro pins s σ H vs us Q I r h
  obtain ⟨v, t, rfl, hd, hs, hz, hc, q⟩ := h
  have hm := sm.no I
  have ref : ∀ L u, v = .ref L → RelV v u → wpAny (model X.prog X.w) X.A (call (.builtin "repr") [u]) (fun u' s' => ∃ w H', Inv X pins σ H' s' ∧ RelV w u' ∧ Q w H') X.xe s := by
    rintro L u rfl r1
    obtain ⟨as, rd, na⟩ := th_reads I hm t _ _ hd r1
    cases r1
    exact repr_of_reads' rd hs (fun _ => na) hg (by omega) (fun _ _ e => e) (fun h' u tk kp => ⟨.str t.enc.shown, H, I.kept kp, ⟨u, rfl⟩, q⟩) (by rw [sizeLine_eq]; exact hc)
  cases r with
  | cons r1 r2 =>
    cases r2
    cases t with
    | int i =>
      unfold thR at hd
      subst hd
      obtain ⟨t, rfl⟩ := r1
      have h' : i.natAbs.log2 < 1920 := by simpa [Th.enc, PyData.showable] using hs
      exact PySem.P.repr_of_int h' ⟨.str (PyData.shown (.int i)), H, I.tok _, ⟨_, rfl⟩, by unfold Th.enc at q; exact q⟩
    | bl b =>
      unfold thR at hd
      subst hd
      cases r1
      cases b with
      | true => exact PySem.P.repr_of_bool ⟨.str (PyData.shown (.bool true)), H, I.tok _, ⟨_, rfl⟩, by unfold Th.enc at q; exact q⟩
      | false => exact PySem.P.repr_of_bool ⟨.str (PyData.shown (.bool false)), H, I.tok _, ⟨_, rfl⟩, by unfold Th.enc at q; exact q⟩
    | non =>
      unfold thR at hd
      subst hd
      cases r1
      exact PySem.P.repr_of_none ⟨.str "None", H, I.tok _, ⟨_, rfl⟩, by unfold Th.enc at q; exact q⟩
    | str x =>
      unfold thR at hd
      subst hd
      obtain ⟨t, rfl⟩ := r1
      refine PySem.P.repr_of_str ⟨.str (PyData.shown (.str x)), H, I.tok _, ⟨_, rfl⟩, by unfold Th.enc at q; exact q⟩ ?_
      rw [sizeLine_eq]
      unfold Th.enc at hc
      exact hc
    | lst xs =>
      have hd' := hd
      unfold thR at hd'
      obtain ⟨L, _, e, _⟩ := hd'
      exact ref L _ e r1
    | tup xs =>
      have hd' := hd
      unfold thR at hd'
      obtain ⟨L, _, e, _⟩ := hd'
      exact ref L _ e r1
    | dic xs =>
      have hd' := hd
      unfold thR at hd'
      obtain ⟨L, _, e, _⟩ := hd'
      exact ref L _ e r1
    | dct xs =>
      have hd' := hd
      unfold thR at hd'
      obtain ⟨L, _, e, _⟩ := hd'
      exact ref L _ e r1
section
variable {K : PySem.W.Frag}
def gReprT (t : Th) : Option Str := if t.enc.showable = true ∧ t.enc.depth ≤ 60 ∧ t.enc.shown.length ≤ 16777216 then some t.enc.shown else none
theorem v_reprT : VR K rReprT (aOne (ir rTh)) rS gReprT := fun G H v a b Q s ⟨x, h0, h1⟩ hg k => by
  subst h0
  obtain ⟨⟨h2, h3, h4⟩, rfl⟩ := of_ite hg
  exact ⟨x, a, rfl, thR.mono s h1, h2, h3, h4, k _ G H (.refl s) rfl⟩
end
/-! ## plain bounds -/
structure OkT (n d : Nat) (t : Th) : Prop where
  sh : t.enc.showable = true
  ln : t.enc.shown.length ≤ n
  dp : t.enc.depth ≤ d
theorem OkT.mono {n d n' d' : Nat} {t : Th} (h : OkT n d t) (h1 : n ≤ n') (h2 : d ≤ d') : OkT n' d' t := ⟨h.sh, Nat.le_trans h.ln h1, Nat.le_trans h.dp h2⟩
theorem op_reprT {n d : Nat} {t : Th} {Q : Str → Prop} (h : OkT n d t) (hn : n ≤ 16777216) (hd : d ≤ 60) (q : Q t.enc.shown) : OpP (gReprT t) Q := by
  unfold gReprT
  rw [if_pos ⟨h.sh, Nat.le_trans h.dp hd, Nat.le_trans h.ln hn⟩]
  exact .mk q
theorem okT_int {i : Int} (h : i.natAbs < 10 ^ 80) : OkT 81 0 (.int i) := by
  refine ⟨?_, ?_, ?_⟩ <;> unfold Th.enc
  · simp [PyData.showable, log_small (by decide) h]
  · exact int_le (by decide) h
  · simp [PyData.depth]
theorem okT_bl {b : Bool} : OkT 5 0 (.bl b) := by
  refine ⟨?_, ?_, ?_⟩ <;> unfold Th.enc
  · simp [PyData.showable]
  · cases b <;> decide +kernel
  · simp [PyData.depth]
theorem okT_non : OkT 4 0 .non := by
  refine ⟨?_, ?_, ?_⟩ <;> unfold Th.enc
  · simp [PyData.showable]
  · decide +kernel
  · simp [PyData.depth]
theorem okT_str {s : Str} {n : Nat} (h : (reprText s).length ≤ n) : OkT n 0 (.str s) := by
  refine ⟨?_, ?_, ?_⟩ <;> unfold Th.enc
  · simp [PyData.showable]
  · exact h
  · simp [PyData.depth]
theorem okT_all {m d : Nat} : ∀ {xs : List Th}, (∀ x ∈ xs, OkT m d x) → PyData.showableAll (encAll xs) = true ∧ piled (PyData.shownAll (encAll xs)) ≤ (m + 2) * xs.length ∧ PyData.depthAll (encAll xs) ≤ d
  | [], _ => by simp [encAll, PyData.showableAll, PyData.shownAll, PyData.depthAll, piled]
  | x :: xs, h => by
    obtain ⟨h1, h2, h3⟩ := okT_all (xs := xs) fun y hy => h y (List.mem_cons_of_mem _ hy)
    have hx := h x List.mem_cons_self
    have hl := hx.ln
    have hd := hx.dp
    unfold encAll
    refine ⟨?_, ?_, ?_⟩
    · simp [PyData.showableAll, h1, hx.sh]
    · show piled (PyData.shown x.enc :: PyData.shownAll (encAll xs)) ≤ _
      rw [piled_cons, List.length_cons, Nat.mul_add]
      omega
    · simp only [PyData.depthAll]
      omega
theorem okT_lst {m d k : Nat} {xs : List Th} (h : ∀ x ∈ xs, OkT m d x) (hl : xs.length ≤ k) : OkT ((m + 2) * k + 4) (d + 1) (.lst xs) := by
  obtain ⟨h1, h2, h3⟩ := okT_all h
  have h4 : (m + 2) * xs.length ≤ (m + 2) * k := Nat.mul_le_mul_left _ hl
  refine ⟨?_, ?_, ?_⟩ <;> unfold Th.enc
  · simpa [PyData.showable] using h1
  · have := listText_le (PyData.shownAll (encAll xs))
    show (listText (PyData.shownAll (encAll xs))).length ≤ _
    omega
  · simp only [PyData.depth]
    omega
theorem okT_tup {m d k : Nat} {xs : List Th} (h : ∀ x ∈ xs, OkT m d x) (hl : xs.length ≤ k) : OkT ((m + 2) * k + 4) (d + 1) (.tup xs) := by
  obtain ⟨h1, h2, h3⟩ := okT_all h
  have h4 : (m + 2) * xs.length ≤ (m + 2) * k := Nat.mul_le_mul_left _ hl
  refine ⟨?_, ?_, ?_⟩ <;> unfold Th.enc
  · simpa [PyData.showable] using h1
  · have := tupleText_le (PyData.shownAll (encAll xs))
    show (tupleText (PyData.shownAll (encAll xs))).length ≤ _
    omega
  · simp only [PyData.depth]
    omega
theorem dictText_le (ts : List Str) : (dictText ts).length ≤ piled ts + 2 := by
  have e : (dictText ts).length = 1 + (Str.join ", " ts).length + 1 := by
    unfold dictText
    rw [strLen_append, strLen_append]; rfl
  by_cases h : ts = []
  · subst h
    have e2 : (Str.join ", " []).length = 0 := rfl
    omega
  · have := join_length_add ts h
    omega
theorem okT_kv {m d : Nat} : ∀ {kvs : List (Int × Th)}, (∀ p ∈ kvs, p.1.natAbs < 10 ^ 80 ∧ OkT m d p.2) → PyData.showableKv (encKv kvs) = true ∧ piled (PyData.shownKv (encKv kvs)) ≤ (m + 85) * kvs.length ∧ PyData.depthKv (encKv kvs) ≤ d
  | [], _ => by simp [encKv, PyData.showableKv, PyData.shownKv, PyData.depthKv, piled]
  | (k, x) :: kvs, h => by
    obtain ⟨h1, h2, h3⟩ := okT_kv (kvs := kvs) fun y hy => h y (List.mem_cons_of_mem _ hy)
    obtain ⟨hk, hx⟩ := h (k, x) List.mem_cons_self
    have hl := hx.ln
    have hd := hx.dp
    have hki := okT_int hk
    have hkl : (PyData.shown (.int k)).length ≤ 81 := by have := hki.ln; unfold Th.enc at this; exact this
    have hks : PyData.showable (.int k) = true := by have := hki.sh; unfold Th.enc at this; exact this
    unfold encKv
    refine ⟨?_, ?_, ?_⟩
    · simp [PyData.showableKv, h1, hx.sh, hks]
    · show piled ((PyData.shown (.int k) ++ ": " ++ PyData.shown x.enc) :: PyData.shownKv (encKv kvs)) ≤ _
      have e1 : (((": " : String) : Str)).length = 2 := rfl
      rw [piled_cons, List.length_cons, Nat.mul_add, strLen_append, strLen_append, e1]
      dsimp only at hl
      omega
    · simp only [PyData.depthKv, PyData.depth]
      dsimp only at hd
      omega
theorem okT_dic {m d k : Nat} {kvs : List (Int × Th)} (h : ∀ p ∈ kvs, p.1.natAbs < 10 ^ 80 ∧ OkT m d p.2) (hl : kvs.length ≤ k) : OkT ((m + 85) * k + 4) (d + 1) (.dic kvs) := by
  obtain ⟨h1, h2, h3⟩ := okT_kv h
  have h4 : (m + 85) * kvs.length ≤ (m + 85) * k := Nat.mul_le_mul_left _ hl
  refine ⟨?_, ?_, ?_⟩ <;> unfold Th.enc
  · simpa [PyData.showable] using h1
  · have := dictText_le (PyData.shownKv (encKv kvs))
    show (dictText (PyData.shownKv (encKv kvs))).length ≤ _
    omega
  · simp only [PyData.depth]
    omega
/-! # Things: casts, projections, small dicts, the end -/
section
variable {ε α β : Type} {M : Mx} {R : ERep ε}
def toTh (f : α → Th) (a : α) : Option Th := some (f a)
abbrev CiT (r : Rep α) (f : α → Th) : Prop := CastR r rTh (toTh f)
theorem ci_I : CiT rI Th.int := c_int
theorem ci_B : CiT rB Th.bl := c_bl
theorem ci_S : CiT rS Th.str := c_str
theorem ci_N : CiT rN (fun _ => Th.non) := c_non
theorem ci_id : CiT rTh (fun t => t) := fun K G v a b h e => by cases e; exact h
theorem ci_L {r : Rep α} {f : α → Th} (c : CiT r f) : CiT (rz (oL r)) (fun xs => Th.lst (xs.map f)) := fun K G v a b h e => by
  cases e
  exact c_lst K G v _ _ (c_L (f := f) (fun K G v a b h e => c K G v a b h e) K G v a _ h rfl) rfl
theorem ci_T {r : Rep α} {f : α → Th} (c : CiT r f) : CiT (rz (oT r)) (fun xs => Th.tup (xs.map f)) := fun K G v a b h e => by
  cases e
  exact c_tup K G v _ _ (c_T (f := f) (fun K G v a b h e => c K G v a b h e) K G v a _ h rfl) rfl
theorem ci_T2 {r : Rep α} {r' : Rep β} {f : α → Th} {g : β → Th} (c : CiT r f) (c' : CiT r' g) : CiT (rz (oT2 r r')) (fun p => Th.tup [f p.1, g p.2]) := fun K G v a b h e => by
  cases e
  obtain ⟨L, ho, h1, h2, x, y, rfl, h3, h4⟩ := h
  refine c_tup K G v [f a.1, g a.2] _ ⟨L, _, h1, h2, [x, y], rfl, .cons (c _ _ _ _ _ h3 rfl) (.cons (c' _ _ _ _ _ h4 rfl) .nil)⟩ rfl
theorem ci_L2 {r : Rep α} {r' : Rep β} {f : α → Th} {g : β → Th} (c : CiT r f) (c' : CiT r' g) : CiT (rz (oL2 r r')) (fun p => Th.lst [f p.1, g p.2]) := fun K G v a b h e => by
  cases e
  obtain ⟨L, ho, h1, h2, x, y, rfl, h3, h4⟩ := h
  refine c_lst K G v [f a.1, g a.2] _ ⟨L, _, h1, h2, [x, y], rfl, .cons (c _ _ _ _ _ h3 rfl) (.cons (c' _ _ _ _ _ h4 rfl) .nil)⟩ rfl
theorem dr_map {κ κ' : Type} {kr : KeyR κ κ'} {r : Rep α} {r' : Rep β} {f : α → β} (c : ∀ K G v a, r.rel K G v a → r'.rel K G v (f a)) {K : PySem.W.Frag} {G : Hp} : ∀ {ws : List (κ' × V)} {kbs : List (κ × α)}, DR kr r K G ws kbs → DR kr r' K G ws (kbs.map fun p => (p.1, f p.2))
  | _, [], h => by unfold DR at h ⊢; cases h; exact .nil
  | _, p :: kbs, h => by
    unfold DR at h
    cases h with
    | cons h1 h2 => exact .cons ⟨h1.1, c _ _ _ _ h1.2⟩ (dr_map c h2)
theorem ci_DI {r : Rep α} {f : α → Th} (c : CiT r f) : CiT (rz (oDI r)) (fun kbs => Th.dic (kbs.map fun p => (p.1, f p.2))) := fun K G v a b h e => by
  cases e
  obtain ⟨L, ho, h1, h2, ws, rfl, h3⟩ := h
  exact c_dic K G v _ _ ⟨L, _, h1, h2, ws, rfl, dr_map (fun K G v a h => c K G v a _ h rfl) h3⟩ rfl
theorem ci_D {r : Rep α} {f : α → Th} (c : CiT r f) : CiT (rz (oD r)) (fun kbs => Th.dct (kbs.map fun p => (p.1, f p.2))) := fun K G v a b h e => by
  cases e
  obtain ⟨L, ho, h1, h2, ws, rfl, h3⟩ := h
  exact c_dct K G v _ _ ⟨L, _, h1, h2, ws, rfl, dr_map (fun K G v a h => c K G v a _ h rfl) h3⟩ rfl
theorem ci_O {r : Rep α} {f : α → Th} (c : CiT r f) : CiT (rO r) (fun o => match o with | none => Th.non | some a => f a) := fun K G v a b h e => by
  cases e
  cases a with
  | none => exact c_non K G v () _ h rfl
  | some a => exact c K G v a _ h.2 rfl
/-! ## projections -/
def asLs (f : Th → Option β) (t : Th) : Option (List β) := match t with | .lst xs => allM f xs | _ => none
def asTs (f : Th → Option β) (t : Th) : Option (List β) := match t with | .tup xs => allM f xs | _ => none
theorem c_asLs {r : Rep β} {f : Th → Option β} (c : CastR rTh r f) : CastR rTh (rz (oL r)) (asLs f) := fun K G v a b h e => by
  cases a with
  | lst xs => exact c_pL c K G v xs b (c_asL K G v (.lst xs) xs h rfl) e
  | _ => cases e
theorem c_asTs {r : Rep β} {f : Th → Option β} (c : CastR rTh r f) : CastR rTh (rz (oT r)) (asTs f) := fun K G v a b h e => by
  cases a with
  | tup xs => exact c_pT c K G v xs b (c_asT K G v (.tup xs) xs h rfl) e
  | _ => cases e
def asT2 (f : Th → Option α) (g : Th → Option β) (t : Th) : Option (α × β) := match t with
  | .tup [x, y] => (f x).bind fun a => (g y).map fun b => (a, b)
  | _ => none
theorem c_asT2 {r : Rep α} {r' : Rep β} {f : Th → Option α} {g : Th → Option β} (c : CastR rTh r f) (c' : CastR rTh r' g) : CastR rTh (rz (oT2 r r')) (asT2 f g) := fun K G v a b h e => by
  match a, h, e with
  | .tup [x, y], h, e =>
    obtain ⟨L, ho, h1, h2, vs, rfl, h3⟩ := c_asT K G v (.tup [x, y]) [x, y] h rfl
    cases h3 with
    | cons p h3 =>
      cases h3 with
      | cons q h3 =>
        cases h3
        have e : ((f x).bind fun a => (g y).map fun b => (a, b)) = some b := e
        cases hx : f x with
        | none => rw [hx] at e; cases e
        | some a' =>
          cases hy : g y with
          | none => rw [hx, hy] at e; cases e
          | some b' =>
            rw [hx, hy] at e
            cases e
            exact ⟨L, _, h1, h2, _, _, rfl, c _ _ _ _ _ p hx, c' _ _ _ _ _ q hy⟩
theorem allM_map {f : β → Option α} {g : α → β} (h : ∀ x, f (g x) = some x) : ∀ xs : List α, allM f (xs.map g) = some xs
  | [] => rfl
  | x :: xs => by
    rw [List.map_cons]
    unfold allM
    rw [h, allM_map h xs]
    rfl
theorem allM_some {f : Th → Option Th} (h : ∀ x, f x = some x) : ∀ xs : List Th, allM f xs = some xs
  | [] => rfl
  | x :: xs => by
    unfold allM
    rw [h, allM_some h xs]
    rfl
/-! ## {k: v}, k and v names or written -/
structure PureX (R : ERep ε) (t : TE) (r : Rep α) (m : ε → Rs ε α) : Prop where
  go : ∀ {K F G H σ e}, R.rel K F G H σ e → m e = .bad ∨ ∃ a v, m e = .ok a e ∧ r.rel K G v a ∧ ∀ H' Q, Q v H' → t σ H' Q
theorem pu_c {r : Rep α} {v : V} {a : α} (h : ∀ K G, r.rel K G v a) : PureX R (tC v) r (mC a) := ⟨fun {K F G H σ e} _ => .inr ⟨a, v, rfl, h K G, fun _ _ q => q⟩⟩
theorem pu_var {r : Rep α} {n : Nat} {l : Ln ε α} (at' : FrAt R n r l) : PureX R (tVar n) r (mVar l) := ⟨fun {K F G H σ e} hR => by
  cases h : l.get e with
  | none => exact .inl (by unfold mVar; rw [h]; rfl)
  | some a =>
    obtain ⟨v, h1, h2⟩ := at'.rd hR h
    exact .inr ⟨a, v, by unfold mVar; rw [h]; rfl, h2, fun H' Q q => ⟨v, h1, q⟩⟩⟩
theorem pu_cast {r : Rep α} {r' : Rep β} {t : TE} {f : α → Option β} {m : ε → Rs ε α} (c : CastR r r' f) (h : PureX R t r m) : PureX R t r' (mUn f m) := ⟨fun {K F G H σ e} hR => by
  rcases h.go hR with h1 | ⟨a, v, h1, h2, h3⟩
  · exact .inl (by unfold mUn; rw [h1]; rfl)
  · cases hf : f a with
    | none => exact .inl (by unfold mUn; rw [h1]; show Rs.of (f a) e = .bad; rw [hf]; rfl)
    | some b => exact .inr ⟨b, v, by unfold mUn; rw [h1]; show Rs.of (f a) e = .ok b e; rw [hf]; rfl, c _ _ _ _ _ h2 hf, h3⟩⟩
def gDisp1 (k : Int) (b : β) : Option (List (Int × β)) := some [(k, b)]
theorem x_disp1 {r : Rep β} {tk tv : TE} {mk : ε → Rs ε Int} {mv : ε → Rs ε β} (hk : PureX R tk rI mk) (hv : PureX R tv r mv) : EX M R (tDisp [(tk, tv)]) (fs (oDI r)) (mOp gDisp1 mk mv) := fun F G H σ e i hR Q p => by
  rcases hk.go hR with h1 | ⟨k, v, h1, h2, h3⟩
  · have z : mOp gDisp1 mk mv e = .bad := by unfold mOp; rw [h1]; rfl
    rw [z] at p
    exact p.elim
  · rcases hv.go hR with g1 | ⟨b, w, g1, g2, g3⟩
    · have z : mOp gDisp1 mk mv e = .bad := by
        unfold mOp
        rw [h1]
        show (mv e).bind _ = _
        rw [g1]
        rfl
      rw [z] at p
      exact p.elim
    · have z : mOp gDisp1 mk mv e = .ok [(k, b)] e := by
        unfold mOp
        rw [h1]
        show (mv e).bind _ = _
        rw [g1]
        rfl
      rw [z] at p
      have h2 : v = .int k := h2
      subst h2
      intro q hq
      refine h3 _ _ (g3 _ _ ⟨upd_same, [(.inl k, w)], rfl, Nat.le_of_ble_eq_true rfl, ?_⟩)
      have e2 : upd (upd H q (.dK [])) q (.dK (mergeK [] [(.inl k, w)])) = upd H q (.dK [(.inl k, w)]) := by
        funext x
        by_cases hx : x = q
        · subst hx
          rw [upd_same, upd_same]
          rfl
        · rw [upd_ne hx, upd_ne hx, upd_ne hx]
      show Q (.ref q) (upd (upd H q (.dK [])) q (.dK (mergeK [] [(.inl k, w)])))
      rw [e2]
      exact (Post.finF i hR p) q _ G _ (.own i.gh hq) hq (i.gh.no hq) upd_same ⟨_, rfl, .cons ⟨rfl, g2⟩ .nil⟩
end
/-! ## the end of a law in which things are shown -/
theorem endGS {P : Program} {w : World} {K : PySem.W.Frag} {mg mb : Str → Option Value} {k : Nat} {fa a : Addr} {fd : FuncData} {x : Str} {sp : Sp} {s₁ : Shared} {vs : List Value} {H : Hp}
    (KX : K.In s₁.heap) (hns : s₁.heap.Ns mainGlobals mg) (hb : s₁.heap.Ns builtinsNs mb) (hbb : ∀ x : Str, x ≠ "__name__" → mb x = bootBuiltins x) (hlim : s₁.heap.NoLimit) (hg : s₁.gens = #[]) (hsm : SMod s₁.heap)
    (ha : s₁.heap.get? a = some { cls := .type "list", data := .seq vs.toArray }) (hr : Room k callerA)
    (F : ∀ base : Heap, K.In base → base.Ns mainGlobals mg → SMod base → FnG P w K mg base k fa fd [x] sp) (hbind : ∀ (s : Shared) (u : Value), BindsTo s fd ⟨[u], []⟩ [(x, u)])
    (hsp : sp [.ref a] H (fun v _ => v = .bl true) fun _ _ _ => False) (hok : HOk P w H s₁.heap)
    (hH : ∀ b u, H b = some u → b = a ∧ K.lookup a = none ∧ ∃ o v, u = .frz o v) :
    codeAny (model P w) callerA (.call (.ref fa) ⟨[.ref a], []⟩) (fun r s' => r = .ok (.ret (.bool true)) ∧ OldK s₁.heap s'.heap ∧ s'.os = s₁.os ∧ AllBare s'.gens) s₁ := by
  have free : ∀ {b : Addr} {o : Obj}, s₁.heap.get? b = some o → (∀ xs n, o.data ≠ .seq xs n) → H b = none := fun {b o} e d => by
    cases q : H b with
    | none => rfl
    | some u =>
      obtain ⟨rfl, _⟩ := hH b u q
      rw [ha] at e
      cases e
      exact absurd rfl (d _ _)
  have ns : ∀ {b : Addr} {m : Str → Option Value}, s₁.heap.Ns b m → (hidT s₁.heap H).Ns b m := fun {b m} z => by
    obtain ⟨o, es, ep, e, d, r⟩ := z
    exact ⟨o, es, ep, hidT_get e (free e fun _ _ z => by rw [d] at z; cases z), d, r⟩
  have kin : K.In (hidT s₁.heap H) := fun b o e => hidT_get (KX b o e) (by
    cases q : H b with
    | none => rfl
    | some u =>
      obtain ⟨rfl, h2, _⟩ := hH b u q
      rw [h2] at e
      cases e)
  have lim : (hidT s₁.heap H).NoLimit := by
    obtain ⟨mc, h1, h2⟩ := hlim
    exact ⟨mc, ns h1, h2⟩
  have sm : SMod (hidT s₁.heap H) := by
    obtain ⟨mm, h1⟩ := hsm
    exact ⟨mm, ns h1⟩
  have e0 : Env0 P w K mg (hidT s₁.heap H) callerA [] s₁ H := ⟨rfl, ⟨kin, ns hns, ⟨mb, ns hb, hbb⟩, lim⟩, fun b o e => of_hidT e, Nat.le_of_eq (hidT_size _ _), trivial, fun b z => (List.not_mem_nil (show b ∈ ([] : List Addr) from z)).elim, hok, .of_eq hg⟩
  refine codeAny_mono ((F _ kin (ns hns) sm).run callerA [] s₁ H ⟨[.ref a], []⟩ [.ref a] [.ref a] _ _ rfl hr e0 (hbind s₁ (.ref a)) (.cons rfl .nil) hsp) fun r s' h => ?_
  match r, h with
  | .error _, z => exact False.elim z
  | .ok .next, z => exact False.elim z
  | .ok .brk, z => exact False.elim z
  | .ok .cont, z => exact False.elim z
  | .ok (.ret u), ⟨v, H', os, bare, un, hok', rv, q⟩ =>
    obtain rfl : v = .bl true := q
    obtain rfl : u = Value.bool true := rv
    refine ⟨rfl, OldK.of_keep fun b o e => ?_, os, bare⟩
    cases q : H b with
    | none => exact un.keep b o e q (fun z => (List.not_mem_nil (show b ∈ ([] : List Addr) from z)).elim) (fun z => (List.not_mem_nil z).elim)
    | some u =>
      obtain ⟨_, _, ob, u', rfl⟩ := hH b u q
      have e1 := (hok b _ q).1
      have e2 := (hok' b _ (un.frzs b ob u' q)).1
      rw [e] at e1
      cases e1
      exact e2
theorem walkGS {l : PySem.W.OpenLaw} {n k : Nat} {q : Program} {loose : List Str} {XP : (Str → Option Value) → Heap → Prop} {YP : World → Heap → Prop} {d : DefRec} {K : Params → PySem.W.Frag} {sp : World → Sp} {x : Str}
    (hn : l.most = some n) (hn2 : n ≤ sizeLine) (hdf : d.params.defaults = []) (hr : Room k callerA) (hi : importsNone q = true)
    (hY : ∀ (w : World) (h : Heap), YP w h → (K w.params).In h)
    (F : ∀ (w : World) (mg : Str → Option Value) (fa : Addr) (h : Heap), (K w.params).In h → h.Ns mainGlobals mg → mg d.name = some (.ref fa) →
      ∃ fd : FuncData, (∀ (s : Shared) (u : Value), BindsTo s fd ⟨[u], []⟩ [(x, u)]) ∧
        ∀ base : Heap, (K w.params).In base → base.Ns mainGlobals mg → SMod base → FnG l.prog w (K w.params) mg base k fa fd [x] (sp w))
    (hsp : ∀ (w : World) (H : Hp) (a : Addr) (ns : List Int), ns.length ≤ n → SqL (K w.params) H a (ns.map V.int) → (∀ b u, H b = some u → b = a ∧ ∃ o v, u = .frz o v) → sp w [.ref a] H (fun v _ => v = .bl true) fun _ _ _ => False) :
    PySem.W.WalkO q loose XP YP l.row.toRowW d [] (fun f vs => PySem.call f vs) := by
  refine Att.attach_call hn hdf fun w s₀ s₁ mg mb fa o pm cd doc a vs ns G Y ho hd hcd hmg hobj hints hlen hg => ?_
  have KX := hY w _ Y
  obtain ⟨fd, hb, hF⟩ := F w mg fa _ KX G.T.g hmg
  have hl : ns.length ≤ sizeLine := Nat.le_trans hlen hn2
  have rv := vals_ints hints
  have sm : SMod s₁.heap := let ⟨mm, h, _⟩ := (G.T.seer hi).mods; ⟨mm, h⟩
  cases hk : (K w.params).lookup a with
  | some o =>
    have e := KX a o hk
    rw [hobj] at e
    cases e
    refine endGS (H := fun _ => none) KX G.T.g G.T.b G.T.builtins G.T.nolimit hg sm hobj hr hF hb (hsp w _ a ns hlen ?_ fun b u z => nomatch z) (fun b u z => nomatch z) fun b u z => nomatch z
    exact .inr ⟨_, vs.toArray, _, hk, rfl, rfl, rfl, by rw [List.size_toArray, hints.length]; exact hl, by simpa using rv⟩
  | none =>
    have one : ∀ b u, (fun b => if b = a then some (HO.frz { cls := .type "list", data := .seq vs.toArray } (.lst (ns.map V.int))) else none) b = some u → b = a ∧ u = HO.frz { cls := .type "list", data := .seq vs.toArray } (.lst (ns.map V.int)) := fun b u z => by
      by_cases hb : b = a
      · exact ⟨hb, (Option.some.inj ((if_pos hb).symm.trans z)).symm⟩
      · exact nomatch ((if_neg hb).symm.trans z)
    refine endGS (H := fun b => if b = a then some (.frz { cls := .type "list", data := .seq vs.toArray } (.lst (ns.map V.int))) else none) KX G.T.g G.T.b G.T.builtins G.T.nolimit hg sm hobj hr hF hb
      (hsp w _ a ns hlen (.inl (.inr ⟨_, if_pos rfl⟩)) fun b u z => ⟨(one b u z).1, _, _, (one b u z).2⟩) (fun b u z => ?_) fun b u z => ⟨(one b u z).1, hk, _, _, (one b u z).2⟩
    obtain ⟨rfl, rfl⟩ := one b u z
    exact ⟨hobj, by rw [List.length_map]; exact hl, vs, _, rv, hobj⟩
/-! # Things: what kind they are, plainly -/
def isInt : Th → Bool | .int _ => true | .bl _ => true | _ => false
def isBl : Th → Bool | .bl _ => true | _ => false
def isLst : Th → Bool | .lst _ => true | _ => false
def isTup : Th → Bool | .tup _ => true | _ => false
def isStr : Th → Bool | .str _ => true | _ => false
def isDic : Th → Bool | .dic _ => true | .dct _ => true | _ => false
theorem ist_int (t : Th) : isT "int" t = isInt t := by
  cases t <;> (simp only [isT, kindOf, isInt]; decide +kernel)
theorem ist_bool (t : Th) : isT "bool" t = isBl t := by
  cases t <;> (simp only [isT, kindOf, isBl]; decide +kernel)
theorem ist_list (t : Th) : isT "list" t = isLst t := by
  cases t <;> (simp only [isT, kindOf, isLst]; decide +kernel)
theorem ist_tuple (t : Th) : isT "tuple" t = isTup t := by
  cases t <;> (simp only [isT, kindOf, isTup]; decide +kernel)
theorem ist_str (t : Th) : isT "str" t = isStr t := by
  cases t <;> (simp only [isT, kindOf, isStr]; decide +kernel)
theorem ist_dict (t : Th) : isT "dict" t = isDic t := by
  cases t <;> (simp only [isT, kindOf, isDic]; decide +kernel)
theorem gIsTh_int {t : Th} : gIsTh "int" (t, ()) = some (isInt t) := by unfold gIsTh; rw [ist_int]
theorem gIsTh_bool {t : Th} : gIsTh "bool" (t, ()) = some (isBl t) := by unfold gIsTh; rw [ist_bool]
theorem gIsTh_list {t : Th} : gIsTh "list" (t, ()) = some (isLst t) := by unfold gIsTh; rw [ist_list]
theorem gIsTh_tuple {t : Th} : gIsTh "tuple" (t, ()) = some (isTup t) := by unfold gIsTh; rw [ist_tuple]
theorem gIsTh_str {t : Th} : gIsTh "str" (t, ()) = some (isStr t) := by unfold gIsTh; rw [ist_str]
theorem gIsTh_dict {t : Th} : gIsTh "dict" (t, ()) = some (isDic t) := by unfold gIsTh; rw [ist_dict]
theorem isLst_iff {t : Th} : isLst t = true ↔ ∃ ts, t = .lst ts := by
  cases t <;> simp [isLst]
theorem isTup_iff {t : Th} : isTup t = true ↔ ∃ ts, t = .tup ts := by
  cases t <;> simp [isTup]
/-- a whole number, no truth -/
def isW (t : Th) : Bool := (asI t).isSome
theorem isW_eq (t : Th) : (if isInt t = true then !isBl t else false) = isW t := by cases t <;> rfl
theorem allM_isW : ∀ {ts : List Th}, (ts.all isW) = (allM asI ts).isSome
  | [] => rfl
  | t :: ts => by
    unfold allM
    rw [List.all_cons, allM_isW (ts := ts)]
    unfold isW
    cases asI t with
    | none => rfl
    | some x =>
      cases allM asI ts with
      | none => rfl
      | some y => rfl
theorem allM_len {α β : Type} {f : α → Option β} : ∀ {ts : List α} {xs : List β}, allM f ts = some xs → xs.length = ts.length
  | [], xs, h => by cases h; rfl
  | t :: ts, xs, h => by
    unfold allM at h
    cases hx : f t with
    | none => rw [hx] at h; cases h
    | some x =>
      rw [hx] at h
      cases hy : allM f ts with
      | none => rw [hy] at h; cases h
      | some ys =>
        rw [hy] at h
        cases h
        rw [List.length_cons, List.length_cons, allM_len hy]
theorem allM_none {α β : Type} {f : α → Option β} {t : α} (h : f t = none) : ∀ {ts : List α}, t ∈ ts → allM f ts = none
  | [], hm => absurd hm List.not_mem_nil
  | x :: ts, hm => by
    unfold allM
    rcases List.mem_cons.mp hm with rfl | hm
    · rw [h]
      rfl
    · rw [allM_none h hm]
      cases f x <;> rfl
theorem asI_eq {t : Th} {i : Int} (h : asI t = some i) : t = .int i := by
  cases t with
  | int j => cases h; rfl
  | _ => cases h
theorem allM_ints : ∀ {ts : List Th} {xs : List Int}, allM asI ts = some xs → ts = xs.map Th.int
  | [], xs, h => by cases h; rfl
  | t :: ts, xs, h => by
    unfold allM at h
    cases hx : asI t with
    | none => rw [hx] at h; cases h
    | some x =>
      rw [hx] at h
      cases hy : allM asI ts with
      | none => rw [hy] at h; cases h
      | some ys =>
        rw [hy] at h
        cases h
        rw [List.map_cons, ← allM_ints hy, asI_eq hx]
theorem sm80 {x : Int} (h0 : -1000 ≤ x) (h1 : x ≤ 1000) : x.natAbs < 10 ^ 80 := Nat.lt_of_le_of_lt (show x.natAbs ≤ 1000 by omega) (by decide)
theorem okT_ints {xs : List Int} (h : ∀ x ∈ xs, x.natAbs < 10 ^ 80) : ∀ t ∈ xs.map Th.int, OkT 81 0 t := fun t ht => by
  obtain ⟨x, hx, rfl⟩ := List.mem_map.mp ht
  exact okT_int (h x hx)
/-! # More rules for things: t[::-1], t * n, str(t), dict(pairs), is True -/
section
variable {prog : Program} {w : World} {A : Around} {E : Value → Shared → Prop} {s : Shared}
theorem adjust_rev (n : Nat) : Builtin.Slice.sliceAdjust none none (-1) (n : Int) = ((n : Int) - 1, -1) := by
  unfold Builtin.Slice.sliceAdjust
  simp
theorem places_rev (n : Nat) : Builtin.Slice.slicePlaces ((n : Int) - 1) (-1) (-1) = n := by
  unfold Builtin.Slice.slicePlaces
  have h1 : ¬ ((-1 : Int) > 0) := by omega
  simp only [h1, if_false]
  split
  · have : ((n : Int) - 1 - -1 - 1) / (-(-1)) + 1 = n := by
      rw [show (-(-1 : Int)) = 1 from rfl, Int.ediv_one]
      omega
    rw [this]
    rfl
  · omega
theorem sliceApplied_rev {sl : Addr} {t : Tok} {n : Nat} {Q : Int × Int × Nat → Shared → Prop} (hs : s.heap.IsSliceOf sl .none .none (.int (-1) t)) (h : Q ((n : Int) - 1, -1, n) s) :
    wpAny (model prog w) A (Builtin.Slice.sliceApplied (.ref sl) (pure (n : Int))) Q E s := by
  obtain ⟨os, hos, hcs, hds⟩ := id hs
  unfold Builtin.Slice.sliceApplied Builtin.Slice.sliceFields
  refine wpAny_bind (wpAny_bind (wpAny_field hos hds (x := .none) rfl (wpAny_bind (wpAny_field hos hds (x := .none) rfl (wpAny_bind (wpAny_field hos hds (x := .int (-1) t) rfl (wpAny_pure ?_)))))))
  refine wpAny_bind (slicePart_int ?_)
  show wpAny _ _ (if ((-1 : Int) == 0) = true then _ else _) _ _ s
  rw [if_neg (by decide)]
  refine wpAny_bind (slicePart_none (wpAny_bind (slicePart_none (wpAny_bind (wpAny_pure ?_)))))
  show wpAny _ _ (match Builtin.Slice.sliceAdjust none none (-1) (n : Int) with | (lo, hi) => pure (lo, (-1 : Int), Builtin.Slice.slicePlaces lo hi (-1))) _ _ s
  rw [adjust_rev n]
  show wpAny _ _ (pure ((n : Int) - 1, (-1 : Int), Builtin.Slice.slicePlaces ((n : Int) - 1) (-1) (-1))) _ _ s
  rw [places_rev]
  exact wpAny_pure h
theorem pick_rev (xs : Array Value) : ((List.range xs.size).filterMap fun (m : Nat) => xs[(((xs.size : Int) - 1) + (m : Int) * (-1)).toNat]?).toArray = xs.toList.reverse.toArray := by
  have e : ((List.range xs.size).filterMap fun (m : Nat) => xs[(((xs.size : Int) - 1) + (m : Int) * (-1)).toNat]?) = xs.toList.reverse := by
    have e1 : ((List.range xs.size).filterMap fun (m : Nat) => xs[(((xs.size : Int) - 1) + (m : Int) * (-1)).toNat]?) = (List.range xs.size).filterMap fun m => xs.toList.reverse[m]? := by
      have cong : ∀ (ms : List Nat) (f g : Nat → Option Value), (∀ m ∈ ms, f m = g m) → ms.filterMap f = ms.filterMap g := by
        intro ms f g h
        induction ms with
        | nil => rfl
        | cons m ms ih =>
          rw [List.filterMap_cons, List.filterMap_cons, h m List.mem_cons_self, ih fun x hx => h x (List.mem_cons_of_mem _ hx)]
      refine cong _ _ _ fun m hm => ?_
      rw [List.mem_range] at hm
      rw [List.getElem?_reverse (by simpa using hm), Array.length_toList, ← Array.getElem?_toList]
      congr 1
      omega
    rw [e1]
    have : ∀ (ys : List Value), (List.range ys.length).filterMap (fun m => ys[m]?) = ys := by
      intro ys
      induction ys with
      | nil => rfl
      | cons y ys ih =>
        rw [List.length_cons, List.range_succ_eq_map, List.filterMap_cons]
        simp only [List.getElem?_cons_zero]
        rw [List.filterMap_map]
        congr 1
    have h2 := this xs.toList.reverse
    rw [List.length_reverse, Array.length_toList] at h2
    exact h2
  rw [e]
theorem getItem_tuple_rev {t sl : Addr} {items : Array Value} {u : Tok} {Q : Value → Shared → Prop} (ht : IsTup s.heap t items) (hs : s.heap.IsSliceOf sl .none .none (.int (-1) u))
    (h : Q (.ref s.heap.objs.size) { s with heap := s.heap.push { cls := .type "tuple", data := .seq items.toList.reverse.toArray } })
    (hsz : items.size ≤ sizeLine) : wpAny (model prog w) A (getItem (.ref t) (.ref sl)) Q E s := by
  have htake : sizeOk (.seq items.toList.reverse.toArray) := by
    show items.toList.reverse.toArray.size ≤ sizeLine
    rw [List.size_toArray, List.length_reverse, Array.length_toList]
    exact hsz
  obtain ⟨os, hos, hcs, hds⟩ := id hs
  have hTs : s.TypeIs (.ref sl) "slice" := ⟨os, hos, hcs⟩
  unfold getItem
  try with_reducible refine wpAny_holding ?_
  first | refine wpAny_bind (wpAny_pure ?_) | skip
  refine wpAny_bind (wpAny_sequenceKey ht.typeIs (by decide) ?_)
  refine wpAny_bind (wpAny_callSpecial?_slot (name := Str.ofString "__getitem__") ht.typeIs PyProof.Rows.slot_tuple_getitem
    (wpAny_call_entry PyProof.Rows.slot_tuple_getitem ht.typeIs entry_tuple_getitem ?_ (args_tuple_getitem _ _)))
  show wpAny _ _ (Builtin.Tuple.tupleItemsOf (.ref t) >>= _) _ _ s
  refine wpAny_bind (tupleItemsOf_ ht ?_)
  refine wpAny_bind (wpAny_typeOf hTs ?_)
  rw [if_pos (by decide)]
  refine wpAny_bind (sliceApplied_rev hs ?_)
  show wpAny _ _ (if ((((items.size : Int) - 1) == 0 && (-1 : Int) == 1 && items.size == items.size) = true) then _ else _) _ _ s
  rw [if_neg (by simp), pick_rev]
  first
    | exact wpAny_bind (m := Builtin.Tuple.tupleExact _) (wpAny_newObj_type (wpAny_pure ⟨_, rfl, wpAny_pure h⟩) htake)
    | exact wpAny_bind (m := Builtin.Tuple.tupleExact _) (wpAny_newObj_type (wpAny_bind (wpAny_pure (wpAny_pure ⟨_, rfl, wpAny_pure h⟩))) htake)
    | exact wpAny_bind (wpAny_bind (m := Builtin.Tuple.tupleExact _) (wpAny_newObj_type (wpAny_pure (wpAny_pure ⟨_, rfl, wpAny_pure h⟩)) htake))
    | exact wpAny_bind (wpAny_bind (m := Builtin.Tuple.tupleExact _) (wpAny_newObj_type (wpAny_pure ⟨_, rfl, wpAny_pure h⟩) htake))
end
section
variable {X : Cx}
def tRevT (K : PySem.W.Frag) (te : TE) : TE := fun σ H Q => te σ H fun x H1 => ∃ a xs, x = .ref a ∧ SqT K H1 a xs ∧ ∀ p, H1 p = none → Q (.ref p) (upd H1 p (.tup xs.reverse))
theorem pe_revT {e : Expr} {te : TE} {k : Nat} {p1 p2 p3 pos : Pos} (he : PE X e te) : PE X (.Subscript e (.Slice none none (some (.UnaryOp .USub (.Constant (.int 1) k p1) p2)) p3) pos) (tRevT X.K te) := by
  refine ⟨fun pins s σ H Q I h => ?_⟩
  refine Subscript_ (thn (he.run pins s σ H _ I h) fun v s1 ⟨x, H1, I1, r1, q1⟩ => ?_)
  obtain ⟨a, xs, ex, hx, q⟩ := q1
  subst ex
  cases r1
  have hst : PO X (some (.UnaryOp .USub (.Constant (.int 1) k p1) p2)) (tPart (tUn (rU fun i => .int (-i)) (tC (.int 1)))) := po_some (pe_un un_neg pe_int)
  refine wpAny_Slice (thn (po_none.run pins s1 σ H1 (fun o H2 => o = none ∧ H2 = H1) I1 ⟨rfl, rfl⟩) fun vl s2 ⟨l, H2, I2, pl, el, e2⟩ => ?_)
  subst el e2
  refine thn (po_none.run pins s2 σ H2 (fun o H3 => o = none ∧ H3 = H2) I2 ⟨rfl, rfl⟩) fun vu s3 ⟨u, H3, I3, pu, eu, e3⟩ => ?_
  subst eu e3
  refine thn (hst.run pins s3 σ H3 (fun o H4 => o = some (-1) ∧ H4 = H3) I3 ⟨1, rfl, -1, rfl, rfl, rfl⟩) fun vs s4 ⟨o, H4, I4, ps, eo, e4⟩ => ?_
  subst eo e4
  cases pl
  cases pu
  obtain ⟨tk, rfl⟩ : ∃ tk, vs = .int (-1) tk := by cases ps; exact ⟨_, rfl⟩
  have I5 : Inv X pins σ H4 { s4 with heap := s4.heap.push { cls := .type "slice", data := .fields #[.none, .none, .int (-1) tk] } } := I4.kept (t' := s4.toks) fun b ob q => Heap.get?_push_of_some _ q
  obtain ⟨its, r, ht, hz⟩ := I5.tuple hx
  have hlen := r.length
  show wpAny (model X.prog X.w) X.A (subscriptTail e (.Slice none none (some (.UnaryOp .USub (.Constant (.int 1) k p1) p2)) p3) (.ref a) (.ref s4.heap.objs.size)) (EP X pins σ Q) X.xe { s4 with heap := s4.heap.push { cls := .type "slice", data := .fields #[.none, .none, .int (-1) tk] } }
  refine tail_any (ops := [.ref a, .ref s4.heap.objs.size]) ht.typeIs (PyProof.Rows.slot_tuple_getitem.lookup) ?_ (by with_unfolding_all rfl)
  refine getItem_tuple_rev ht (Heap.IsSliceOf.new _ .none .none (.int (-1) tk)) ?_ (by rw [List.size_toArray]; omega)
  refine ⟨.ref _, _, I5.laid (t' := s4.toks) (o := .tup xs.reverse) (fun b ob q => Heap.get?_push_of_some _ q) (Nat.le_refl _) ?_, rfl, q _ (I5.hok.fresh (Nat.le_refl _))⟩
  exact ⟨by rw [List.length_reverse]; exact hz, _, r.reverse, IsTup.new _ _⟩
end
section
variable {K : PySem.W.Frag} {α β ε : Type} {M : Mx} {R : ERep ε}
theorem x_revT {t : TE} {r : Rep α} {m : ε → Rs ε (List α)} (h : EX M R t (fz (rz (oT r))) m) : EX M R (tRevT M.K t) (fz (rz (oT r))) (mUn gRev m) := fun F G H σ e i hR Q p =>
  h F G H σ e i hR _ (p.bind fz_h fun v a e1 G1 H1 i1 s1 R1 r1 p1 => by
    obtain ⟨⟨L, ho, rfl, h2, vs, rfl, h3⟩, _⟩ := r1
    refine ⟨L, vs, rfl, sqt_of i1.gh h2, fun q hq => ?_⟩
    have st := Stp.new (o := .tup vs.reverse) i1.gh hq
    exact p1 (.ref q) _ _ _ (i1.step st) st.g ⟨⟨q, _, rfl, upd_same, _, rfl, (h3.rev).mono fun _ _ => r.mono st.g⟩, rfl⟩ (R.mono st.g st.h st.n R1))
/-! ## t * n -/
def gRepT (xs : List α) (k : Int) : Option (List α) := if xs ≠ [] ∧ 2 ≤ k ∧ k ≤ 1000 ∧ xs.length ≤ 1000 then some (List.replicate k.toNat xs).flatten else none
theorem a2_rep {r : α → β → Prop} {vs : List α} {xs : List β} (h : A2 r vs xs) : ∀ n : Nat, A2 r (List.replicate n vs).flatten (List.replicate n xs).flatten
  | 0 => .nil
  | n + 1 => by
    rw [List.replicate_succ, List.replicate_succ, List.flatten_cons, List.flatten_cons]
    exact h.app (a2_rep h n)
theorem v_repT {r : Rep α} : VR2 K (rRepT K) (ir (rT r)) (ir rI) (rT r) gRepT := fun G H v w a b c Q s ⟨L, ho, h1, h2, vs, h3, h4⟩ hi hg k => by
  subst h1 h3; cases hi
  unfold gRepT at hg
  split at hg
  · next hz =>
    cases hg
    have hl := h4.length
    refine ⟨L, b, vs, rfl, rfl, sqt_of s h2, fun e => hz.1 ?_, hz.2.1, hz.2.2.1, by omega, fun p hp => k (.ref p) _ _ (.new s hp) ⟨p, _, rfl, upd_same, _, rfl, (a2_rep h4 _).mono fun _ _ => r.mono (sub_upd (s.no hp))⟩⟩
    rw [e] at hl
    exact List.eq_nil_of_length_eq_zero hl.symm
  · cases hg
/-! ## dict(pairs) -/
def rDictP (K : PySem.W.Frag) : List V → Hp → VK → Prop := fun xs H Q => ∃ (a : Addr) (ps : List Addr) (kvs : List (Key × V)), xs = [.ref a] ∧ SqL K H a (ps.map V.ref) ∧ Paired (fun p kv => SqT K H p [kV kv.1, kv.2]) ps kvs ∧
    ∀ p, H p = none → Q (.ref p) (upd H p (.dK (mergeK [] kvs)))
theorem cr_dictP {X : Cx} (hcalm : X.calm = true) : CallR X (.type "dict") (rDictP X.K) := call_dictP hcalm
def gDictP (rows : List (Int × β)) : Option (List (Int × β)) := some (dputs [] rows)
theorem v_dictP {r : Rep β} : VF K (rDictP K) (aOne (rd (oL (rT2 rI r)))) (oDI r) gDictP := fun G H v a b Q s ⟨x, h0, L, ho, h1, h2, vs, h3, h4⟩ hg k => by
  subst h0 h1 h3
  cases hg
  obtain ⟨ps, m, rfl, p1, p2, p3⟩ := prs_of s h4
  exact ⟨L, ps, m, rfl, sql_h h2, p1, fun p hp => k p _ G _ (.own s hp) hp (s.no hp) upd_same ⟨_, rfl, p2.merge (kvs := []) (kbs := []) .nil⟩⟩
/-! ## str of a list or a tuple -/
def rStrT : List V → Hp → VK → Prop := fun xs H Q => ∃ (L : Addr) (t : Th), xs = [.ref L] ∧ thR H (.ref L) t ∧ t.enc.showable = true ∧ t.enc.depth ≤ 60 ∧ t.enc.shown.length ≤ 16777216 ∧ Q (.str t.enc.shown) H
theorem cr_strT {X : Cx} (hg : X.A.guards = some []) (hu : X.A.units + 64 < cLine) (sm : SMod X.base) : CallR X (.type "str") rStrT := by
  intro pins s σ H vs us Q I r h
  obtain ⟨L, t, rfl, hd, hs, hz, hc, q⟩ := h
  have hm := sm.no I
  cases r with
  | cons r1 r2 =>
    cases r2
    obtain ⟨as, rd, na⟩ := th_reads I hm t _ _ hd r1
    cases r1
    exact str_of_reads rd hs (fun _ => na) hg (by omega) (fun _ _ e => e) (fun h' u tk kp => ⟨.str t.enc.shown, H, I.kept kp, ⟨u, rfl⟩, q⟩) (by rw [sizeLine_eq]; exact hc)
def isRef : Th → Bool | .lst _ => true | .tup _ => true | .dic _ => true | .dct _ => true | _ => false
def gStrT (t : Th) : Option Str := if isRef t = true ∧ t.enc.showable = true ∧ t.enc.depth ≤ 60 ∧ t.enc.shown.length ≤ 16777216 then some t.enc.shown else none
theorem v_strT : VR K rStrT (aOne (ir rTh)) rS gStrT := fun G H v a b Q s ⟨x, h0, h1⟩ hg k => by
  subst h0
  obtain ⟨⟨h0, h2, h3, h4⟩, rfl⟩ := of_ite hg
  have h5 : thR G x a := h1
  have : ∃ L, x = .ref L := by
    cases a with
    | lst xs => unfold thR at h5; exact ⟨_, h5.choose_spec.choose_spec.1⟩
    | tup xs => unfold thR at h5; exact ⟨_, h5.choose_spec.choose_spec.1⟩
    | dic xs => unfold thR at h5; exact ⟨_, h5.choose_spec.choose_spec.1⟩
    | dct xs => unfold thR at h5; exact ⟨_, h5.choose_spec.choose_spec.1⟩
    | _ => cases h0
  obtain ⟨L, rfl⟩ := this
  exact ⟨L, a, rfl, thR.mono s h1, h2, h3, h4, k _ G H (.refl s) rfl⟩
theorem op_strT {n d : Nat} {t : Th} {Q : Str → Prop} (hr : isRef t = true) (h : OkT n d t) (hn : n ≤ 16777216) (hd : d ≤ 60) (q : Q t.enc.shown) : OpP (gStrT t) Q := by
  unfold gStrT
  rw [if_pos ⟨hr, h.sh, Nat.le_trans h.dp hd, Nat.le_trans h.ln hn⟩]
  exact .mk q
/-! ## a pair as a tuple of things -/
def pairTh (f : α → Th) (g : β → Th) (p : α × β) : Option (List Th) := some [f p.1, g p.2]
theorem c_T2L {r : Rep α} {r' : Rep β} {f : α → Th} {g : β → Th} (c : CiT r f) (c' : CiT r' g) : CastR (rz (oT2 r r')) (rz (oT rTh)) (pairTh f g) := fun K G v a b h e => by
  cases e
  obtain ⟨L, ho, h1, h2, x, y, rfl, h3, h4⟩ := h
  exact ⟨L, _, h1, h2, [x, y], rfl, .cons (c _ _ _ _ _ h3 rfl) (.cons (c' _ _ _ _ _ h4 rfl) .nil)⟩
end
/-! ## t is True -/
section
variable {X : Cx} {K : PySem.W.Frag}
def isTB (b : Bool) (t : Th) : Bool := match t with | .bl c => decide (c = b) | _ => false
def rIsTB : R2 := fun x y H Q => ∃ (t : Th) (b : Bool), thR H x t ∧ y = .bl b ∧ Q (.bl (isTB b t)) H
def rNotTB : R2 := fun x y H Q => ∃ (t : Th) (b : Bool), thR H x t ∧ y = .bl b ∧ Q (.bl (!isTB b t)) H
theorem th_plain {H : Hp} {x : V} {t : Th} {v : Value} {b : Bool} (h : thR H x t) (r : RelV x v) : plainIs v (.bool b) = true := by
  cases t with
  | bl c => unfold thR at h; subst h; cases r; rfl
  | int i => unfold thR at h; subst h; obtain ⟨t, rfl⟩ := r; rfl
  | non => unfold thR at h; subst h; cases r; rfl
  | str s => unfold thR at h; subst h; obtain ⟨t, rfl⟩ := r; rfl
  | lst xs => unfold thR at h; obtain ⟨L, vs, rfl, _⟩ := h; cases r; rfl
  | tup xs => unfold thR at h; obtain ⟨L, vs, rfl, _⟩ := h; cases r; rfl
  | dic xs => unfold thR at h; obtain ⟨L, vs, rfl, _⟩ := h; cases r; rfl
  | dct xs => unfold thR at h; obtain ⟨L, vs, rfl, _⟩ := h; cases r; rfl
theorem th_bool {H : Hp} {x : V} {t : Th} {v : Value} (h : thR H x t) (r : RelV x v) : (∃ c, t = .bl c ∧ v = .bool c) ∨ ((∀ c, t ≠ .bl c) ∧ ∀ c, v ≠ .bool c) := by
  cases t with
  | bl c => unfold thR at h; subst h; cases r; exact .inl ⟨c, rfl, rfl⟩
  | int i => unfold thR at h; subst h; obtain ⟨t, rfl⟩ := r; exact .inr ⟨(fun c z => by cases z), (fun c z => by cases z)⟩
  | non => unfold thR at h; subst h; cases r; exact .inr ⟨(fun c z => by cases z), (fun c z => by cases z)⟩
  | str s => unfold thR at h; subst h; obtain ⟨t, rfl⟩ := r; exact .inr ⟨(fun c z => by cases z), (fun c z => by cases z)⟩
  | lst xs => unfold thR at h; obtain ⟨L, vs, rfl, _⟩ := h; cases r; exact .inr ⟨(fun c z => by cases z), (fun c z => by cases z)⟩
  | tup xs => unfold thR at h; obtain ⟨L, vs, rfl, _⟩ := h; cases r; exact .inr ⟨(fun c z => by cases z), (fun c z => by cases z)⟩
  | dic xs => unfold thR at h; obtain ⟨L, vs, rfl, _⟩ := h; cases r; exact .inr ⟨(fun c z => by cases z), (fun c z => by cases z)⟩
  | dct xs => unfold thR at h; obtain ⟨L, vs, rfl, _⟩ := h; cases r; exact .inr ⟨(fun c z => by cases z), (fun c z => by cases z)⟩
def gIsTB (t : Th) (b : Bool) : Option Bool := some (isTB b t)
def gNotTB (t : Th) (b : Bool) : Option Bool := some (!isTB b t)
theorem v_isTB : VR2 K rIsTB (ir rTh) (ir rB) rB gIsTB := fun G H v w a b c Q s h1 h2 hg k => by
  cases hg
  cases h2
  exact ⟨a, b, thR.mono s h1, rfl, k _ G H (.refl s) rfl⟩
theorem v_notTB : VR2 K rNotTB (ir rTh) (ir rB) rB gNotTB := fun G H v w a b c Q s h1 h2 hg k => by
  cases hg
  cases h2
  exact ⟨a, b, thR.mono s h1, rfl, k _ G H (.refl s) rfl⟩
theorem op_isTB : OpR X (compareOp .Is) rIsTB := by
  intro pins s σ H x y v u Q I rx ry h
  obtain ⟨t, b, ht, rfl, q⟩ := h
  cases (show u = Value.bool b from ry)
  rcases th_bool ht rx with ⟨c, rfl, rfl⟩ | ⟨h1, h2⟩
  · by_cases e : c = b
    · subst e
      exact wpAny_is_self rfl ⟨.bl true, H, I, rfl, by simpa [isTB] using q⟩
    · exact wpAny_is_other rfl (fun z => e (Value.bool.inj z)) ⟨.bl false, H, I, rfl, by simpa [isTB, e] using q⟩
  · have e : isTB b t = false := by
      cases t with
      | bl c => exact absurd rfl (h1 c)
      | _ => rfl
    rw [e] at q
    exact wpAny_is_other (th_plain ht rx) (fun z => h2 b z) ⟨.bl false, H, I, rfl, q⟩
theorem op_notTB : OpR X (compareOp .IsNot) rNotTB := by
  intro pins s σ H x y v u Q I rx ry h
  obtain ⟨t, b, ht, rfl, q⟩ := h
  cases (show u = Value.bool b from ry)
  rcases th_bool ht rx with ⟨c, rfl, rfl⟩ | ⟨h1, h2⟩
  · by_cases e : c = b
    · subst e
      exact wpAny_isNot_self rfl ⟨.bl false, H, I, rfl, by simpa [isTB] using q⟩
    · exact wpAny_isNot_other rfl (fun z => e (Value.bool.inj z)) ⟨.bl true, H, I, rfl, by simpa [isTB, e] using q⟩
  · have e : isTB b t = false := by
      cases t with
      | bl c => exact absurd rfl (h1 c)
      | _ => rfl
    rw [e] at q
    exact wpAny_isNot_other (th_plain ht rx) (fun z => h2 b z) ⟨.bl true, H, I, rfl, q⟩
end
/-! # The text of a text: how long it may be -/
def SmS (x : Str) : Prop := ∀ c ∈ x.cps.toList, c < 16 ^ 8
theorem sm_of (s : String) : SmS (Str.ofString s) := by
  intro c hc
  rw [Str.ofString_eq_toList] at hc
  have hc : c ∈ s.toList.map Char.toNat := by simpa using hc
  obtain ⟨d, _, rfl⟩ := List.mem_map.mp hc
  have h := d.valid
  have h2 : d.toNat < 1114112 := by
    have : d.val.toNat.isValidChar := h
    unfold Nat.isValidChar at this
    show d.val.toNat < 1114112
    omega
  exact Nat.lt_trans h2 (by decide)
theorem sm_app {a b : Str} (h1 : SmS a) (h2 : SmS b) : SmS (a ++ b) := by
  intro c hc
  have hc : c ∈ (a.cps ++ b.cps).toList := hc
  rw [Array.toList_append] at hc
  exact (List.mem_append.mp hc).elim (h1 c) (h2 c)
theorem sm_join {sep : Str} (hs : SmS sep) : ∀ {ts : List Str}, (∀ t ∈ ts, SmS t) → SmS (Str.join sep ts)
  | [], _ => fun c hc => absurd (show c ∈ ([] : List Nat) from hc) List.not_mem_nil
  | [x], h => h x List.mem_cons_self
  | x :: y :: r, h => sm_app (sm_app (h x List.mem_cons_self) hs) (sm_join hs fun t ht => h t (List.mem_cons_of_mem _ ht))
theorem sm_from : ∀ {ts : List Str} {k : Nat} {acc : Str}, SmS acc → (∀ t ∈ ts, SmS t) → SmS (textFrom k acc ts)
  | [], _, _, ha, _ => ha
  | t :: ts, k, acc, ha, h => by
    show SmS (textFrom (k + 1) (acc ++ (if k > 0 then ", " else "" : String) ++ t) ts)
    exact sm_from (sm_app (sm_app ha (sm_of _)) (h t List.mem_cons_self)) fun x hx => h x (List.mem_cons_of_mem _ hx)
theorem sm_list {ts : List Str} (h : ∀ t ∈ ts, SmS t) : SmS (listText ts) := sm_app (sm_from (sm_of _) h) (sm_of _)
theorem sm_tup {ts : List Str} (h : ∀ t ∈ ts, SmS t) : SmS (tupleText ts) := sm_app (sm_app (sm_of _) (sm_join (sm_of _) h)) (sm_of _)
/-- a thing whose text has small signs -/
def SmT (t : Th) : Prop := SmS t.enc.shown
theorem smt_int (i : Int) : SmT (.int i) := by
  unfold SmT Th.enc
  exact sm_of _
theorem smt_all : ∀ {ts : List Th}, (∀ t ∈ ts, SmT t) → ∀ x ∈ PyData.shownAll (encAll ts), SmS x
  | [], _, x, hx => by
    unfold encAll at hx
    simp [PyData.shownAll] at hx
  | t :: ts, h, x, hx => by
    unfold encAll at hx
    have hx : x ∈ t.enc.shown :: PyData.shownAll (encAll ts) := hx
    rcases List.mem_cons.mp hx with rfl | hx
    · exact h t List.mem_cons_self
    · exact smt_all (fun t ht => h t (List.mem_cons_of_mem _ ht)) x hx
theorem smt_lst {ts : List Th} (h : ∀ t ∈ ts, SmT t) : SmT (.lst ts) := by
  unfold SmT Th.enc
  exact sm_list (smt_all h)
theorem smt_tup {ts : List Th} (h : ∀ t ∈ ts, SmT t) : SmT (.tup ts) := by
  unfold SmT Th.enc
  exact sm_tup (smt_all h)
theorem smt_ints (f : List Int) : ∀ t ∈ f.map Th.int, SmT t := fun t ht => by
  obtain ⟨x, _, rfl⟩ := List.mem_map.mp ht
  exact smt_int x
/-- the text of a thing, as a thing -/
theorem okT_shown {t : Th} {n d : Nat} (h : OkT n d t) (hs : SmT t) : OkT (10 * n + 2) 0 (.str t.enc.shown) := okT_str (Nat.le_trans (StrLaws.reprText_len _ hs) (by have := h.ln; omega))
/-! # set(tuple of tuples), len(set), {tuple: v} -/
section
variable {P : Program} {w : World} {A : Around} {E : Value → Shared → Prop} {s : Shared}
theorem set_of_tups {l : Addr} {items : Array Value} (ks : List (Addr × List Int)) {Q : Value → Shared → Prop} (hh : A.handled = none) (hl : s.heap.IsTuple l items) (hit : items.toList = ks.map fun p => Value.ref p.1)
    (hk : ∀ p ∈ ks, IsT P w s.heap p.2 p.1) (hfew : ks.length < 64) (hu : A.units + 3 < cLine)
    (h : ∀ (h' : Heap) (tk : Nat) L es ep t, SetTR P w h' s.heap.objs.size L es ep t → Got ks ks.length L → (∀ b o, s.heap.get? b = some o → h'.get? b = some o) → Q (.ref s.heap.objs.size) { s with heap := h', toks := tk }) :
    wpAny (model P w) A (call (.type "set") [.ref l]) Q E s := by
  have hisz : items.size = ks.length := by
    have q := congrArg List.length hit
    rw [Array.length_toList, List.length_map] at q
    exact q
  obtain ⟨c, tl, hmro⟩ := F.called_set.mro
  have hmade := F.called_set.made
  have hsub := F.called_set.sub
  refine wpAny_call (codeAny_of_tree ?_)
  show wpAny _ _ (callAny (.type "set") _) _ _ _
  refine wpAny_pure ⟨Code.quiet_builtin _ (by decide +kernel), codeAny_builtin F.entry_type_call ?_⟩
  rw [Around.under_plain (weight_type_call_type "set" [.ref l] []) rfl]
  have h1 := F.called_set.notType
  have h2 := F.called_set.canCreate
  have hct := F.typeCall_set_1 (.ref l)
  repeat (any_goals (first | assumption | wp_step))

  refine codeAny_mono (code_set_led1 (.ref l) (E := E) (Q₁ := fun obj s₁ => obj = .ref s.heap.objs.size ∧ s₁ = { s with heap := s.heap.push (noSet w) }) ⟨rfl, rfl⟩) fun r s₁ hr => ?_
  cases r with
  | error e => exact hr
  | ok fl =>
    cases fl with
    | ret obj =>
      obtain ⟨rfl, rfl⟩ := hr
      have hS : (s.heap.push (noSet w)).get? s.heap.objs.size = some (noSet w) := Heap.get?_push_size _ rfl
      have hT : Shared.TypeIs { s with heap := s.heap.push (noSet w) } (.ref s.heap.objs.size) "set" := ⟨_, hS, rfl⟩
      have hli := F.called_set.init.lookup
      have hbi := F.called_set.init.bind (.ref s.heap.objs.size)
      repeat (any_goals (first | assumption | wp_step))

      refine codeAny_mono (codeAny_call_builtin (R := wants (fun r s₂ => r = .none ∧ ∃ h' tk L es ep t, s₂ = { s with heap := h', toks := tk } ∧ SetTR P w h' s.heap.objs.size L es ep t ∧ Got ks ks.length L ∧
          (∀ b o, s.heap.get? b = some o → h'.get? b = some o)) E) F.called_set.init.plain F.entry_set_init (check_set_init_1 hT ?_)) fun r₂ s₂ hr₂ => ?_
      · obtain ⟨ol, hol, hcl, nl, hdl⟩ := hl
        obtain ⟨ocls, odict, odata, oslots⟩ := ol
        simp only at hcl hdl
        subst hcl; subst hdl
        have hol' : (s.heap.push (noSet w)).get? l = some { cls := .type "tuple", dict := odict, data := .seq items nl, slots := oslots } := Heap.get?_push_of_some _ hol
        have hsls := F.sub_tuple_set
        have hslf := F.sub_tuple_frozenset
        have hne : (Value.type "tuple" == Value.type "dict") = false := by decide
        have hl1 : (s.heap.push (noSet w)).IsTuple l items := ⟨_, hol', rfl, nl, rfl⟩
        unfold Builtin.«set.__init__» noKeywords Builtin.Frozenset.updateFrom
        generalize hPI : pyIter = PI
        wp_walk
        subst hPI

        refine wpAny_pyIter_tuple hl1 ?_
        refine wpAny_bind (wpAny_runValue ?_)
        have hlS : l < s.heap.objs.size := Heap.lt_size hol
        have hh3 : A.in1.in1.in1.handled = none := by simp [hh]
        have hz1 : (s.heap.push (noSet w)).objs.size = s.heap.objs.size + 1 := Heap.size_push ..
        have hneI : l ≠ (s.heap.push (noSet w)).objs.size := by
          rw [Heap.size_push]; exact Nat.ne_of_lt (Nat.lt_succ_of_lt hlS)
        have hSf : s.heap.objs.size ∉ [(s.heap.push (noSet w)).objs.size, l] := by
          rw [Heap.size_push]; simp only [List.mem_cons, List.mem_singleton, List.not_mem_nil, or_false, not_or]
          exact ⟨Nat.ne_of_lt (Nat.lt_succ_self _), Nat.ne_of_gt hlS⟩
        have hval : ∀ (i : Nat) (v : Value), items[i]? = some v → ∃ p, ks[i]? = some p ∧ v = .ref p.1 := fun i v hv => by
          have q : items.toList[i]? = some v := by rw [Array.getElem?_toList]; exact hv
          rw [hit, List.getElem?_map] at q
          cases hq : ks[i]? with
          | none => rw [hq] at q; cases q
          | some p =>
            rw [hq] at q
            exact ⟨p, rfl, (Option.some.inj q).symm⟩
        have none_of : ∀ b, s.heap.objs.size ≤ b → s.heap.get? b = none := fun b hb => by
          cases q : s.heap.get? b with
          | none => rfl
          | some o => exact absurd (Nat.lt_of_lt_of_le (Heap.lt_size q) hb) (Nat.lt_irrefl _)
        refine set_update_tups ((Walks.tuple hh3 _ l hneI items).toS) s.heap.objs.size
          hSf ks hisz hfew hval s.heap hk (none_of _ (Nat.le_refl _)) (fun b hb => none_of b (by
            rw [List.mem_singleton.mp hb, Heap.size_push]
            exact Nat.le_succ _)) hu (items.size - 0) 0 _ (by omega) (Nat.zero_le _)
          ⟨⟨_, Heap.get?_push_size _ rfl, rfl, rfl⟩, (hl1.push _)⟩ (fun b o e => Heap.get?_push_of_some _ (Heap.get?_push_of_some _ e)) ?hS0 ?hR
        case hS0 =>
          have hget : ((s.heap.push (noSet w)).push { cls := .type "tuple_iterator", data := .fields #[.ref l, .int 0 0] }).get? s.heap.objs.size
              = some (noSet w) := Heap.get?_push_of_some _ hS
          exact ⟨[], #[], 0, _, setTR_fresh hget, Got.zero ks⟩
        case hR =>
          intro s' L es ep t hm hS' g' hkp
          obtain ⟨h', g2, d', tk', os'⟩ := s'
          have eg : g2 = s.gens := hm.gens
          have ed : d' = s.drawn := hm.drawn
          have eo : os' = s.os := hm.os
          subst eg; subst ed; subst eo
          show wpAny _ _ _ _ _ _
          refine wpAny_pure ?_
          show wpAny _ _ (ret Value.none) _ _ _
          rw [hisz] at g'
          exact wpAny_pure ⟨rfl, h', tk', L, es, ep, t, rfl, hS', g', hkp⟩

      · cases r₂ with
        | error e => exact hr₂
        | ok fl₂ =>
          cases fl₂ with
          | ret r =>
            obtain ⟨rfl, h', tk, L, es, ep, t, rfl, hS', g', hk'⟩ := hr₂
            repeat (any_goals (first | assumption | wp_step))
            exact h _ _ _ _ _ _ hS' g' hk'
          | _ => exact hr₂.elim
    | _ => exact hr.elim

/-! ### sorted -/
end
section
variable {X : Cx}
/-- set(xs), xs a tuple of tuples of ints -/
def rSetTT (K : PySem.W.Frag) (P : Program) (w : World) : List V → Hp → VK → Prop := fun xs H Q => ∃ (l : Addr) (ks : List (Addr × List Int)), xs = [V.ref l] ∧ SqT K H l (ks.map fun p => V.ref p.1) ∧ (∀ p ∈ ks, SqT K H p.1 (p.2.map V.int)) ∧ ks.length < 64 ∧
  ∀ a L, H a = none → (∀ p ∈ L, p ∈ ks) → (∀ p ∈ ks, p.2 ∈ L.map (·.2)) → Q (.ref a) (upd H a (SetTO P w a L))
theorem cr_setTT (hc : X.calm = true) (hu : X.A.units + 64 < cLine) : CallR X (.type "set") (rSetTT X.K X.prog X.w) := by
  intro pins s σ H xs us Q I r h
  obtain ⟨l, ks, rfl, hl, hk, hf, q⟩ := h
  rw [Vals.ref1 r]
  obtain ⟨its, rv, pl, hz⟩ := I.tuple hl
  have hn : H s.heap.objs.size = none := I.hok.fresh (Nat.le_refl _)
  refine set_of_tups (P := X.prog) (w := X.w) ks (I.ok.hd hc) pl (by simpa using refs_of_vals rv) (fun p hp => I.isT (hk p hp)) hf (by omega) fun h' tk L es ep t R g k => ?_
  refine ⟨.ref s.heap.objs.size, upd H s.heap.objs.size (SetTO X.prog X.w s.heap.objs.size L), I.laid (t' := tk) k (Nat.le_refl _) (setTO_new R.t0), rfl, q _ L hn (fun p hp => ?_) fun p hp => ?_⟩
  · exact List.mem_of_mem_take (g.sub p hp)
  · exact g.all p (by rw [List.take_length]; exact hp)
/-- len(s), s a set of ints -/
def rLenSI (w : World) : List V → Hp → VK → Prop := fun vs H Q => ∃ (a : Addr) (ns : List Int) (c : Nat), vs = [V.ref a] ∧ H a = some (SetO w a (fun j => decide (j ∈ ns)) c) ∧ ∀ ms : List Int, ms.Nodup → (∀ j, j ∈ ms ↔ j ∈ ns) → Q (.int ms.length) H
theorem cr_lenSI : CallR X (.builtin "len") (rLenSI X.w) := by
  intro pins s σ H vs us Q I r h
  obtain ⟨a, ns, c, rfl, ha, q⟩ := h
  rw [Vals.ref1 r]
  obtain ⟨o, es, ep, t, ho, hex, hd, _, hn, hm, hb, hf, hsz, _⟩ := setO_get I ha
  have e : ((es.toList.map keyOf).length : Int) = es.size := by rw [List.length_map, Array.length_toList]
  refine call_len_set ho hex hd hf (Int.lt_trans (Int.ofNat_lt.mpr hb) (by decide)) ⟨.int (es.toList.map keyOf).length, H, I.tok _, ⟨_, by rw [e]⟩, q _ hn fun j => ?_⟩
  rw [← hm j]
  exact decide_eq_true_iff
/-- len(s), s a set of tuples -/
def rLenST (P : Program) (w : World) : List V → Hp → VK → Prop := fun vs H Q => ∃ (a : Addr) (L : List (Addr × List Int)), vs = [V.ref a] ∧ H a = some (SetTO P w a L) ∧ ((L.map (·.2)).Nodup → Q (.int (L.map (·.2)).length) H)
theorem cr_lenST : CallR X (.builtin "len") (rLenST X.prog X.w) := by
  intro pins s σ H vs us Q I r h
  obtain ⟨a, L, rfl, ha, q⟩ := h
  rw [Vals.ref1 r]
  obtain ⟨es, ep, t, ⟨o, ho, hex, hd⟩, hr, ht, hn, hp, hl, hroom, hfew⟩ := ((I.hok a _ ha).1 : SetT0 X.prog X.w s.heap a L).ex
  have e : es.size = L.length := by
    have z := congrArg List.length hr
    rw [Array.length_toList] at z
    rw [z]
    unfold rowsOf
    rw [List.length_map]
  have hf : t.fits es.size = true := by
    have h1 := ht.sz
    rw [List.length_map] at h1
    unfold SetTable.fits SetTable.fill
    rw [ht.dm, Bool.and_eq_true, beq_iff_eq, decide_eq_true_eq]
    show t.place.size = es.size ∧ t.place.size + 0 ≤ t.mask
    omega
  refine call_len_set ho hex hd hf (by omega) ⟨.int (L.map (·.2)).length, H, I.tok _, ⟨_, by rw [e, List.length_map]⟩, q hn⟩
end
section
variable {K : PySem.W.Frag} {α β γ ε ρ : Type} {w : World} {P : Program} {M : Mx} {R : ERep ε}
theorem len_sset {ns ms : List Int} (hn : ms.Nodup) (hm : ∀ j, j ∈ ms ↔ j ∈ ns) : ms.length = (sset ns).length :=
  ((List.perm_ext_iff_of_nodup hn ((sset_pw ns).imp fun h => Int.ne_of_lt h)).mpr fun j => by rw [hm, sset_mem]).length_eq
theorem len_ssetF {ns ms : List (List Int)} (hn : ms.Nodup) (hm : ∀ j, j ∈ ms ↔ j ∈ ns) : ms.length = (ssetF ns).length :=
  ((List.perm_ext_iff_of_nodup hn ((ssetF_pw ns).imp fun h => fun e => ltF_irr (e ▸ h))).mpr fun j => by rw [hm, ssetF_mem]).length_eq
def gLenSI (ns : List Int) : Option Int := some (sset ns).length
theorem v_lenSI : VR K (rLenSI w) (aOne (ir (rSet w))) rI gLenSI := fun G H v a b Q s ⟨x, h0, L, c, h1, h2, h3⟩ hg k => by
  subst h0 h1
  cases hg
  refine ⟨L, a, c, rfl, s _ _ h2, fun ms hn hm => ?_⟩
  rw [len_sset hn hm]
  exact k _ _ _ (.refl s) rfl
def gLenST (ns : List (List Int)) : Option Int := some (ssetF ns).length
theorem v_lenST : VR K (rLenST P w) (aOne (ir (rSetT P w))) rI gLenST := fun G H v a b Q s ⟨x, h0, c, L, h1, h2, h3, h4⟩ hg k => by
  subst h0 h1
  cases hg
  refine ⟨c, L, rfl, s _ _ h2, fun hn => ?_⟩
  rw [len_ssetF hn fun j => (h4 j).symm]
  exact k _ _ _ (.refl s) rfl
theorem v_setTT : VR K (rSetTT K P w) (aOne (rd (oT (rT rI)))) (rSetT P w) gSetF := fun G H v a b Q s ⟨x, h0, L, ho, h1, h2, vs, h3, h4⟩ hg k => by
  subst h0 h1 h3
  obtain ⟨hz, rfl⟩ := of_ite hg
  obtain ⟨ks, rfl, k1, rfl⟩ := tups_of h4
  rw [List.length_map] at hz
  refine ⟨L, ks, rfl, sqt_h h2, fun p hp => sqt_of s (k1 p hp), hz, fun c L' hc m1 m2 => k (.ref c) _ _ (.new s hc) ⟨c, L', rfl, upd_same, fun p hp => sub_upd (s.no hc) _ _ (k1 p (m1 p hp)), fun f => ?_⟩⟩
  constructor
  · intro hf
    obtain ⟨p, hp, rfl⟩ := List.mem_map.mp hf
    exact m2 p hp
  · intro hf
    obtain ⟨p, hp, rfl⟩ := List.mem_map.mp hf
    exact List.mem_map.mpr ⟨p, m1 p hp, rfl⟩
end
/-! ## products of big numbers -/
section
variable {X : Cx} {K : PySem.W.Frag}
def rMulW : R2 := L2.rI CMulW fun i j => .int (i * j)
theorem o_mulW : OpR X (binaryOp .Mult) rMulW := op_mulW
def gMulW (i j : Int) : Option Int := if i.natAbs.log2 + j.natAbs.log2 < 1000000 then some (i * j) else none
theorem v_mulW : VR2 K rMulW (ir rI) (ir rI) rI gMulW := v_IC (C := CMulW) fun i j h => h
end
/-! ## x in t -/
section
variable {X : Cx}
def rInDT (K : PySem.W.Frag) : R2 := fun x y H Q => ∃ d ds, Dp K H x d ∧ Dp K H y (.tuple ds) ∧ SeqAt.shaped d = true ∧ SeqAt.shaped (.tuple ds) = true ∧ Q (.bl (ds.any fun z => PyData.eqv z d)) H
theorem op_inDT (hu : X.A.units + 65 < cLine) : OpR X (compareOp .In) (rInDT X.K) := by
  intro pins s σ H x y v u Q I rx ry h
  obtain ⟨d, ds, hd, he, sd, se, q⟩ := h
  obtain ⟨as, r1⟩ := Dp.reads I d x v hd rx
  obtain ⟨bs, r2⟩ := Dp.reads I (.tuple ds) y u he ry
  exact SeqAt.in_tuple_reads r2 r1 (SeqAt.canLay_of_shaped se) (SeqAt.canLay_of_shaped sd) (room_in_shaped sd hu) ⟨.bl _, H, I, rfl, q⟩
end
section
variable {K : PySem.W.Frag} {α β γ ε ρ : Type}
theorem v_inDT [DecidableEq α] {i : IR V α} {i' : IR V (List α)} {E : En α} (d : Da i E) (d' : Da i' (enT E)) (h : EnEq E) (hn : E.dn ≤ 59) : VR2 K (rInDT K) i i' rB gIn := fun G H v w a b c Q s h1 h2 hg k => by
  cases hg
  exact ⟨_, _, d _ _ _ _ _ s h1, d' _ _ _ _ _ s h2, E.shaped (by omega) a, (enT E).shaped (by show E.dn + 1 ≤ 60; omega) b, by rw [any_enc h]; exact k _ G H (.refl s) rfl⟩
end
/-! ## {t: v}, t a name of a tuple -/
section
variable {X : Cx}
def tDispT (tk tv : TE) : TE := fun σ H Q => ∀ p, H p = none → tk σ (upd H p (.dT [])) fun x H1 => tv σ H1 fun y H2 => H2 p = some (.dT []) ∧ ∃ (b : Addr) (k : List Key), x = .ref b ∧ H2 b = some (.tup (k.map kV)) ∧ Q (.ref p) (upd H2 p (.dT [(k, y)]))
theorem pe_dispT {k v : Expr} {pos : Pos} {tk tv : TE} (hu : X.A.units + 1 < cLine) (hk : PE X k tk) (hv : PE X v tv) : PE X (.Dict [some k] [v] pos) (tDispT tk tv) := by
  refine ⟨fun pins s σ H Q I q => ?_⟩
  have hn := I.hok.fresh (Nat.le_refl s.heap.objs.size)
  have I1 := I.laid (a := s.heap.objs.size) (o := .dT []) (h' := s.heap.push { cls := .type "dict", data := .dict #[] }) (t' := s.toks) (fun _ _ q => Heap.get?_push_of_some _ q) (Nat.le_refl _) (dt_empty s.heap I.big)
  refine wpAny_Dict_any rfl rfl (by simp) (Nat.le_of_ble_eq_true rfl) (pairTrees_cons_walk (thn (hk.run pins _ σ _ _ I1 (q _ hn)) fun u s1 ⟨x, H1, I1, rx, q1⟩ => thn (hv.run pins s1 σ H1 _ I1 q1) fun w2 s2 ⟨y, H2, I2, ry, e, b, ks, ex, eb, q2⟩ => pairTrees_nil_walk ?_))
  subst ex
  obtain rfl : u = Value.ref b := rx
  unfold storeAll
  rw [List.forIn_cons]
  obtain ⟨z, hd, xs, rel, dd⟩ := dt_of I2.hok e
  cases rel
  refine wpAny_bind (wpAny_bind (wpAny_dictSet_heap (xs := []) (hsz := Nat.zero_le _) (knd := tupleKind (mixKind X.prog X.w)) (show X.A.units < cLine from Nat.lt_of_succ_lt hu) (key_of I2.hok eb) dd fun h' dd' hs => wpAny_pure ?_))
  show wpAny _ _ (forIn ([] : List (Value × Value)) PUnit.unit _) _ _ _
  rw [List.forIn_nil]
  refine wpAny_pure ⟨.ref s.heap.objs.size, _, ?_, rfl, q2⟩
  obtain ⟨q, es, ep, hq, h2, h3, h4, _, h5⟩ := dd'
  refine d_write I2 (by rw [e]; exact True.intro) hs ⟨q, hq⟩ ⟨by rw [sizeLine_eq]; exact Nat.le_of_ble_eq_true rfl, hd, _, ((KT.put (H := H2) (kvs := []) (xs := []) .nil ks eb ry)).keeps fun c ys ec => ?_, q, es, ep, hq, h2, h3, h4, h5⟩
  rw [upd_ne (ne_of ec e (fun z => nomatch z))]
  exact ec
end
section
variable {ε α β : Type} {M : Mx} {R : ERep ε}
def gDispT (k : List Int) (b : β) : Option (List (List Int × β)) := some [(k, b)]
theorem x_dispT {r : Rep β} {tk tv : TE} {mk : ε → Rs ε (List Int)} {mv : ε → Rs ε β} (hk : PureX R tk (rT rI) mk) (hv : PureX R tv r mv) : EX M R (tDispT tk tv) (fs (oD r)) (mOp gDispT mk mv) := fun F G H σ e i hR Q p => by
  rcases hk.go hR with h1 | ⟨k, v, h1, h2, h3⟩
  · have z : mOp gDispT mk mv e = .bad := by unfold mOp; rw [h1]; rfl
    rw [z] at p
    exact p.elim
  · rcases hv.go hR with g1 | ⟨b, w, g1, g2, g3⟩
    · have z : mOp gDispT mk mv e = .bad := by
        unfold mOp
        rw [h1]
        show (mv e).bind _ = _
        rw [g1]
        rfl
      rw [z] at p
      exact p.elim
    · have z : mOp gDispT mk mv e = .ok [(k, b)] e := by
        unfold mOp
        rw [h1]
        show (mv e).bind _ = _
        rw [g1]
        rfl
      rw [z] at p
      intro q hq
      obtain ⟨a, rfl, ha⟩ := key_tup i.gh h2
      have hne : a ≠ q := fun z => by rw [z, hq] at ha; cases ha
      refine h3 _ _ (g3 _ _ ⟨upd_same, a, kTup.f k, rfl, by rw [upd_ne hne]; exact ha, ?_⟩)
      have e2 : upd (upd H q (.dT [])) q (.dT [(kTup.f k, w)]) = upd H q (.dT [(kTup.f k, w)]) := by
        funext x
        by_cases hx : x = q
        · subst hx
          rw [upd_same, upd_same]
        · rw [upd_ne hx, upd_ne hx, upd_ne hx]
      rw [e2]
      exact (Post.finF i hR p) q _ G _ (.own i.gh hq) hq (i.gh.no hq) upd_same ⟨_, rfl, .cons ⟨rfl, g2⟩ .nil⟩
end
/-! # a def kept in a name, called -/
theorem x_callP {ε α β : Type} {P : Program} {w : World} {K : PySem.W.Frag} {mg : Str → Option Value} {base : Heap} {k i : Nat} {R : ERep ε} {l : Ln ε (α → Rs Unit β)} {t : TA} {ra : IR (List V) α} {r : Rep β} {m : ε → Rs ε α} (at' : FrAt R i (rFn P w mg base k ra (fz r)) l) (h : EX ⟨K, E0, cx0⟩ R t (is ra) m) :
    EX ⟨K, E0, cx0⟩ R (tCallF P w K mg base k i t) (fz r) (mCallX (mVar l) m) := fun F G H σ e iv hR Q p => by
  unfold mCallX mVar at p
  cases hl : l.get e with
  | none => rw [hl] at p; exact p.elim
  | some g =>
    rw [hl] at p
    obtain ⟨v, h1, f, rfl, hh⟩ := at'.rd hR hl
    have hc := x_call (M := ⟨K, E0, cx0⟩) h F G H σ e iv hR Q p
    refine ⟨f, _, h1, hh, ?_⟩
    unfold tCall at hc
    simp only [List.append_nil] at hc
    exact hc
/-- tuple(range(a, b)) -/
def gRg2 (a b : Int) : Option (List Int) := if (-1000000 ≤ a ∧ a ≤ 1000000) ∧ (-1000000 ≤ b ∧ b ≤ 1000000) ∧ b - a ≤ 1000000 then some (rng a b) else none
def rRg2 : R2 := fun x y H Q => ∃ i j, x = .int i ∧ y = .int j ∧ RgOk i j ∧ ∀ q, H q = none → Q (.ref q) (upd H q (.tup (rgV i j)))
theorem v_rg2 {K : PySem.W.Frag} : VR2 K rRg2 (ir rI) (ir rI) (rT rI) gRg2 := fun G H v w a b c Q s h1 h2 hg k => by
  obtain ⟨hz, rfl⟩ := of_ite hg
  refine ⟨a, b, h1, h2, ⟨by omega, by omega, by omega, by omega, by omega⟩, fun p hp => k (.ref p) _ _ (.new s hp) ⟨p, _, rfl, upd_same, _, rfl, ?_⟩⟩
  rw [rgV_rng]
  exact .ofMap fun _ _ => rfl
theorem x_tupRg2 {ε : Type} {M : Mx} {R : ERep ε} {ta tb : TE} {ma mb : ε → Rs ε Int} (ha : EX M R ta (fz rI) ma) (hb : EX M R tb (is (ir rI)) mb) : EX M R (tTupRg (tRg2 ta tb)) (fz (rT rI)) (mOp gRg2 ma mb) := by
  have h := x_tOp v_rg2 Cv.id ha hb
  intro F G H σ e i hR Q p
  refine cast ?_ (h F G H σ e i hR Q p)
  unfold tOp tTupRg tRg2 rRg2
  rfl
/-! # a pen that is a dict of three texts: {'cells': script, 'at': n, 'left': m} -/
def oPd : ORep (List Int × Int × Int) := ⟨fun K G ho p => ∃ v, ho = .dK [(.inr "cells", v), (.inr "at", .int p.2.1), (.inr "left", .int p.2.2)] ∧ rScr.rel K G v p.1, fun s ⟨v, h1, h2⟩ => ⟨v, h1, rScr.mono s h2⟩⟩
def rKey (k : Str) : Rep Unit := ⟨fun _ _ v _ => v = .str k, fun _ h => h⟩
theorem nt_Pd : NT oPd := fun K G ho a ⟨_, h, _⟩ xs e => by rw [h] at e; cases e
section
variable {ε α β : Type} {M : Mx} {R : ERep ε} {K : PySem.W.Frag}
def gPc (p : List Int × Int × Int) (_ : Unit) : Option (List Int) := some p.1
def gPa (p : List Int × Int × Int) (_ : Unit) : Option Int := some p.2.1
def gPl (p : List Int × Int × Int) (_ : Unit) : Option Int := some p.2.2
theorem x_pdc {n : Nat} {l : Ln ε (List Int × Int × Int)} {ty : TE} {m : ε → Rs ε Unit} (at' : Late R n oPd l) (h : EX M R ty (is (ir (rKey "cells"))) m) : EX M R (tDGet (tVar n) ty) (fz rScr) (mOpL gPc l m) :=
  x_opL (u := ty) (T := fun (x y : V) (H2 : Hp) (Q : VK) => ∃ a v, x = .ref a ∧ DGet H2 a y (some v) ∧ Q v H2) (q := oPd) (s := ir (rKey "cells")) (g := gPc) (fun G H v w a b c Q s ⟨L, ho, h2, h3, x, h4, h5⟩ h1 hg k => by
    subst h2 h4
    cases hg
    have h1 : w = .str "cells" := h1
    subst h1
    exact ⟨L, x, rfl, .inl ⟨_, .inr "cells", .inl h3, rfl, rfl⟩, k _ G H (.refl s) h5⟩) at' h
theorem x_pda {n : Nat} {l : Ln ε (List Int × Int × Int)} {ty : TE} {m : ε → Rs ε Unit} (at' : Late R n oPd l) (h : EX M R ty (is (ir (rKey "at"))) m) : EX M R (tDGet (tVar n) ty) (fz rI) (mOpL gPa l m) :=
  x_opL (u := ty) (T := fun (x y : V) (H2 : Hp) (Q : VK) => ∃ a v, x = .ref a ∧ DGet H2 a y (some v) ∧ Q v H2) (q := oPd) (s := ir (rKey "at")) (g := gPa) (fun G H v w a b c Q s ⟨L, ho, h2, h3, x, h4, h5⟩ h1 hg k => by
    subst h2 h4
    cases hg
    have h1 : w = .str "at" := h1
    subst h1
    exact ⟨L, _, rfl, .inl ⟨_, .inr "at", .inl h3, rfl, rfl⟩, k _ G H (.refl s) rfl⟩) at' h
theorem x_pdl {n : Nat} {l : Ln ε (List Int × Int × Int)} {ty : TE} {m : ε → Rs ε Unit} (at' : Late R n oPd l) (h : EX M R ty (is (ir (rKey "left"))) m) : EX M R (tDGet (tVar n) ty) (fz rI) (mOpL gPl l m) :=
  x_opL (u := ty) (T := fun (x y : V) (H2 : Hp) (Q : VK) => ∃ a v, x = .ref a ∧ DGet H2 a y (some v) ∧ Q v H2) (q := oPd) (s := ir (rKey "left")) (g := gPl) (fun G H v w a b c Q s ⟨L, ho, h2, h3, x, h4, h5⟩ h1 hg k => by
    subst h2 h4
    cases hg
    have h1 : w = .str "left" := h1
    subst h1
    exact ⟨L, _, rfl, .inl ⟨_, .inr "left", .inl h3, rfl, rfl⟩, k _ G H (.refl s) rfl⟩) at' h
def gSetPa (p : List Int × Int × Int) (_ : Unit) (x : Int) : Option (List Int × Int × Int) := some (p.1, x, p.2.2)
def gSetPl (p : List Int × Int × Int) (_ : Unit) (x : Int) : Option (List Int × Int × Int) := some (p.1, p.2.1, x)
theorem v_setPa : VS K rSetD oPd (rKey "at") rI gSetPa := fun G H L ho st i x v y st' Q s h1 h2 ⟨w, h3, h4⟩ h5 h6 hg k => by
  subst h3
  have h5 : i = .str "at" := h5
  have h6 : v = .int y := h6
  subst h5 h6
  cases hg
  exact ⟨L, _, rfl, .inl ⟨_, Sum.inr "at", h1, rfl, by rw [sizeLine_eq]; exact Nat.le_of_ble_eq_true rfl, rfl⟩, k _ ⟨w, rfl, h4⟩⟩
theorem v_setPl : VS K rSetD oPd (rKey "left") rI gSetPl := fun G H L ho st i x v y st' Q s h1 h2 ⟨w, h3, h4⟩ h5 h6 hg k => by
  subst h3
  have h5 : i = .str "left" := h5
  have h6 : v = .int y := h6
  subst h5 h6
  cases hg
  exact ⟨L, _, rfl, .inl ⟨_, Sum.inr "left", h1, rfl, by rw [sizeLine_eq]; exact Nat.le_of_ble_eq_true rfl, rfl⟩, k _ ⟨w, rfl, h4⟩⟩
theorem x_pdnew {n : Nat} {l : Ln ε (List Int)} (at' : FrAt R n rScr l) : EX M R (tDisp [(tC (.str "cells"), tVar n), (tC (.str "at"), tC (.int 0)), (tC (.str "left"), tC (.int 0))]) (fs oPd) (mUn some (mPair (mVar l) (mPair (mC (0 : Int)) (mC (0 : Int))))) := fun F G H σ e i hR Q p => by
  cases h : l.get e with
  | none =>
    have z : (mUn some (mPair (mVar l) (mPair (mC (0 : Int)) (mC (0 : Int)))) : ε → Rs ε (List Int × Int × Int)) e = .bad := by
      unfold mUn mPair mVar
      rw [h]
      rfl
    rw [z] at p
    exact p.elim
  | some a =>
    obtain ⟨v, h1, h2⟩ := at'.rd hR h
    have z : (mUn some (mPair (mVar l) (mPair (mC (0 : Int)) (mC (0 : Int)))) : ε → Rs ε (List Int × Int × Int)) e = .ok (a, 0, 0) e := by
      unfold mUn mPair mVar
      rw [h]
      rfl
    rw [z] at p
    intro q hq
    refine ⟨v, h1, upd_same, [(.inr "cells", v), (.inr "at", .int 0), (.inr "left", .int 0)], rfl, Nat.le_of_ble_eq_true rfl, ?_⟩
    have e2 : upd (upd H q (.dK [])) q (.dK (mergeK [] [(.inr "cells", v), (.inr "at", .int 0), (.inr "left", .int 0)])) = upd H q (.dK [(.inr "cells", v), (.inr "at", .int 0), (.inr "left", .int 0)]) := by
      funext x
      by_cases hx : x = q
      · subst hx
        rw [upd_same, upd_same]
        rfl
      · rw [upd_ne hx, upd_ne hx, upd_ne hx]
    show Q (.ref q) (upd (upd H q (.dK [])) q (.dK (mergeK [] [(.inr "cells", v), (.inr "at", .int 0), (.inr "left", .int 0)])))
    rw [e2]
    exact (Post.finF i hR p) q _ G _ (.own i.gh hq) hq (i.gh.no hq) upd_same ⟨v, rfl, h2⟩
end
/-! # texts: a + b, a * n -/
def repS (a : Str) (n : Nat) : Str := ⟨(List.replicate n a.cps).foldl (· ++ ·) #[]⟩
theorem repS_one (a : Str) : repS a 1 = a := by
  unfold repS
  simp
def rMulS : R2 := fun x y H Q => ∃ (a : Str) (n : Int), x = .str a ∧ y = .int n ∧ 1 ≤ n ∧ n ≤ 1000 ∧ 1 ≤ a.length ∧ a.length ≤ 1000 ∧ Q (.str (repS a n.toNat)) H
theorem repS_len (a : Str) : ∀ n, (repS a n).length = n * a.length := by
  have h : ∀ (n : Nat) (acc : Array Nat), ((List.replicate n a.cps).foldl (· ++ ·) acc).size = acc.size + n * a.cps.size := by
    intro n
    induction n with
    | zero => intro acc; simp
    | succ n ih =>
      intro acc
      rw [List.replicate_succ, List.foldl_cons, ih, Array.size_append, Nat.succ_mul]
      omega
  intro n
  have := h n #[]
  simp at this
  exact this
theorem o_muls {X : Cx} : OpR X (binaryOp .Mult) rMulS := by
  intro pins s σ H x y v u Q I rx ry h
  obtain ⟨a, n, rfl, rfl, n1, n2, a1, a2, q⟩ := h
  obtain ⟨t, rfl⟩ := rx
  obtain ⟨tt, rfl⟩ := ry
  have hm : a.length * n.toNat ≤ 1000 * 1000 := Nat.mul_le_mul a2 (by omega)
  refine P.mul_str ?_ (fun _ _ => ?_) (fun _ _ => ?_) ?_
  · rw [decide_eq_false (by omega), decide_eq_false (by omega)]
    rfl
  · have : (1000 : Int) ≤ (2 ^ 63 - 1) / n := (Int.le_ediv_iff_mul_le (by omega)).mpr (by omega)
    omega
  · unfold Builtin.Str.tooLong
    exact decide_eq_false (by rw [sizeLine_eq]; omega)
  · rw [if_neg (by omega)]
    by_cases e : n = 1
    · subst e
      rw [if_pos (by rfl)]
      exact ⟨.str a, H, I, ⟨t, rfl⟩, by rw [← repS_one a]; exact q⟩
    · rw [if_neg (by rw [Bool.or_eq_true, beq_iff_eq, beq_iff_eq]; omega)]
      have hl := repS_len a n.toNat
      refine ⟨by show (repS a n.toNat).length ≤ sizeLine; rw [hl, sizeLine_eq, Nat.mul_comm]; omega, .str (repS a n.toNat), H, I.tok _, ⟨_, rfl⟩, q⟩
def gAddS (a b : Str) : Option Str := if a.length + b.length ≤ 1000000 then some (a ++ b) else none
theorem v_addS {K : PySem.W.Frag} : VR2 K rAddS (ir rS) (ir rS) rS gAddS := fun G H v w a b c Q s h1 h2 hg k => by
  obtain ⟨hz, rfl⟩ := of_ite hg
  exact ⟨a, b, h1, h2, by rw [sizeLine_eq]; omega, k _ G H (.refl s) rfl⟩
def gMulS (a : Str) (n : Int) : Option Str := if (1 ≤ n ∧ n ≤ 1000) ∧ 1 ≤ a.length ∧ a.length ≤ 1000 then some (repS a n.toNat) else none
theorem v_mulS {K : PySem.W.Frag} : VR2 K rMulS (ir rS) (ir rI) rS gMulS := fun G H v w a b c Q s h1 h2 hg k => by
  obtain ⟨hz, rfl⟩ := of_ite hg
  exact ⟨a, b, h1, h2, hz.1.1, hz.1.2, hz.2.1, hz.2.2, k _ G H (.refl s) rfl⟩
/-! # a def with a table that changes its first argument -/
section
variable {ν ν' α β γ ε ρ ι : Type} {M : Mx} {R : ERep ε} {F : Frm} {G G1 H : Hp} {σ : Sg} {D : Ends}
def PostIT (K : PySem.W.Frag) (F : Frm) (p P : Addr) (z : Str) (q : ORep ι) (rr : RS V ρ) (Q : VK) : Rs ι ρ → Prop
  | .ok b st => ∀ v G' H' H1 ho, IV F G' H' → rr.rel K F G' H' v b H1 → TabG P z G' H1 → H1 p = some ho → G' p = none → q.rel K G' ho st → Q v H'
  | .ex _ _ => False
  | .bad => False
def spIT (K : PySem.W.Frag) (P : Addr) (z : Str) (q : ORep ι) (ra : IR (List V) α) (rr : RS V ρ) (f : ι → α → Rs ι ρ) : Sp := fun vs H Q E => ∃ G p ws ho st a, vs = .ref p :: ws ∧ hide H P p = some ho ∧ G p = none ∧ q.rel K G ho st ∧ (Sub G H ∧ Tps G H) ∧ TabG P z G H ∧ ra K G (hide (hide H P) p) ws a ∧ PostIT K ⟨G, H, [p, P], fun _ => none, fun _ => none⟩ p P z q rr Q (f st a)
theorem len_IT {K : PySem.W.Frag} {P : Addr} {z : Str} {q : ORep ι} {ra : IR (List V) α} {rr : RS V ρ} {f : ι → α → Rs ι ρ} {n : Nat} (h : ALen ra n) : ∀ vs H Q E, spIT K P z q ra rr f vs H Q E → vs.length = n + 1 := fun vs H Q E ⟨G, p, ws, ho, st, a, e, _, _, _, _, _, hr, _⟩ => by
  rw [e, List.length_cons, h _ _ _ _ _ hr]
theorem d_IT {K : PySem.W.Frag} {P : Addr} {z : Str} {cx : Str → Addr} {E : XK} {N : List Str} {vs : List V} {Q : VK} {rr : RS V ρ} {t : TS} {mb : ε → So ε ρ} {q : ORep ι} {l : Ln ε ι} {ra : IR (List V) α} {e0 : ι → α → ε} {dn : Option ρ} {E' : XK} (hs : SX ⟨K, E', cx⟩ (eTb P z R) rr t mb) (at' : OwAt (eTb P z R) 0 (ownI 0) q l)
    (h0 : ∀ G H p ho st ws a, hide H P p = some ho → G p = none → q.rel K G ho st → Sub G H → ra K G (hide (hide H P) p) ws a → R.rel K ⟨G, H, [p, P], fun _ => none, fun _ => none⟩ G (hide H P) (start N (.ref p :: ws)) (e0 st a)) (hd : ∀ b, dn = some b → ∀ F G H, rr.rel K F G H .non b H)
    (h : spIT K P z q ra rr (fun st a => (mb (e0 st a)).runI l dn) vs H Q E) : t { nx := fun _ H' => Q .non H', rt := Q } (start N vs) H := by
  obtain ⟨G, p, ws, ho, st, a, rfl, h1, h2, h3, s, tb, hr, pp⟩ := h
  refine hs ⟨G, H, [p, P], fun _ => none, fun _ => none⟩ G H _ (e0 st a) (.start s) ⟨tb, ⟨List.mem_cons_of_mem _ (List.mem_singleton.mpr rfl), rfl, rfl⟩, h0 G H p ho st ws a h1 h2 h3 s.1 hr⟩ _ ?_
  have look : ∀ {G' H' : Hp} {σ' : Sg} {e : ε} {x : ι}, (eTb P z R).rel K ⟨G, H, [p, P], fun _ => none, fun _ => none⟩ G' H' σ' e → l.get e = some x → ∃ ho', H' p = some ho' ∧ G' p = none ∧ q.rel K G' ho' x := fun hR hx => by
    obtain ⟨L, ho', _, b2, b3, b4, b5, _⟩ := at'.rd hR hx
    have : p = L := by simpa [ownI] using b4.1
    subst this
    exact ⟨ho', b2, b3, b5⟩
  have pp : PostIT K ⟨G, H, [p, P], fun _ => none, fun _ => none⟩ p P z q rr Q ((mb (e0 st a)).runI l dn) := pp
  cases z0 : mb (e0 st a) with
  | rt b e =>
    rw [z0] at pp
    unfold So.runI at pp
    cases z : l.get e with
    | none => simp only [z] at pp; exact False.elim pp
    | some x =>
      simp only [z] at pp
      exact fun v σ' G' H' H1 i _ hv hR => let ⟨ho', b1, b2, b3⟩ := look hR z; pp v G' H' H1 ho' i hv hR.1 b1 b2 b3
  | nx e =>
    rw [z0] at pp
    unfold So.runI at pp
    cases z : l.get e with
    | none => simp only [z] at pp; exact False.elim pp
    | some x =>
      simp only [z] at pp
      cases dn with
      | none => exact False.elim pp
      | some b => exact fun σ' G' H' i _ hR => let ⟨ho', b1, b2, b3⟩ := look hR z; pp .non G' H' H' ho' i (hd b rfl _ _ _) hR.1 b1 b2 b3
  | ex c e =>
    rw [z0] at pp
    unfold So.runI at pp
    cases z : l.get e with
    | none => simp only [z] at pp; exact False.elim pp
    | some x => simp only [z] at pp; exact False.elim pp
  | bk e => rw [z0] at pp; exact False.elim pp
  | ct e => rw [z0] at pp; exact False.elim pp
  | bad => rw [z0] at pp; exact False.elim pp
/-- a call of such a def, no argument beside the changed one -/
theorem x_callIT {P : Addr} {z : Str} {n : Nat} {own : Frm → Addr → Prop} {l : Ln ε ι} {q : ORep ι} {r : Rep ρ} {f : ι → Unit → Rs ι ρ} (at' : OwAt (eTb P z R) n own q l) (ho : OwnQ own) :
    EX M (eTb P z R) (tCall (spIT M.K P z q aNil (fz r) f) [] M.E (tCons (tVar n) tNil)) (fz r) (mCallI l f (mC ())) := fun F G H σ e i hR Q p => by
  unfold mCallI at p
  cases h0 : l.get e with
  | none => rw [h0] at p; exact p.elim
  | some st =>
    rw [h0] at p
    obtain ⟨L, hob, h1, h4, h5, h6, h7, h8⟩ := at'.rd hR h0
    obtain ⟨tb, o, rr⟩ := id hR
    have nP := h8.1.show.1
    refine ⟨_, h1, ?_⟩
    show spIT M.K P z q aNil (fz r) f [V.ref L] H Q M.E
    dsimp only [mC, Rs.bind] at p
    rw [h0] at p
    dsimp only at p
    refine ⟨G, L, [], hob, st, (), rfl, by rw [hide_ne nP.symm]; exact h4, h5, h7, ⟨i.gh, i.tp⟩, tb, rfl, ?_⟩
    revert p
    cases f st () with
    | ok b st' =>
      rintro p v G' H' Hx ho' j ⟨hr, rfl⟩ tb' e2 e3 e4
      have gP : G' P = none := by
        obtain ⟨_, _, h, _⟩ := tb'
        exact h
      have hp : ∀ p ∈ [L, P], (F.H0 p = none ∨ p ∈ F.ws) ∧ F.X p = none ∧ F.Y p = none ∧ G' p = none := fun p hp => by
        rcases List.mem_cons.mp hp with rfl | hp
        · exact ⟨(ho _ _ h6).1, (ho _ _ h6).2.1, (ho _ _ h6).2.2, e3⟩
        · obtain rfl := List.mem_singleton.mp hp
          exact ⟨.inr o.1, o.2.1, o.2.2, gP⟩
      refine p v G' _ _ (i.after j hp) j.g0 ⟨hr, rfl⟩ (at'.bk ⟨tb'.hide nP, o, R.mono j.g0 (fun b u hb => ?_) (fun b hb hn => j.new b (hide_sub.ne (hide_sub.ne hb)) hn) h8.2.2⟩ h1 e2 e3 h6 e4)
      obtain ⟨n1, hb⟩ := hide_some hb
      obtain ⟨n2, hb⟩ := hide_some hb
      rw [hide_ne n1, hide_ne n2]
      exact j.fr b u (by simp [n1, n2]) hb
    | ex c st' => exact id
    | bad => exact id
end
/-! # Edges that grow a path or a ring (for k40: the pieces about a face, less two corners) -/
def deg (es : List (Int × Int)) (v : Int) : Nat := (es.filter fun p => decide (v = p.1 ∨ v = p.2)).length
theorem deg_snoc (es : List (Int × Int)) (x y v : Int) : deg (es ++ [(x, y)]) v = deg es v + if v = x ∨ v = y then 1 else 0 := by
  unfold deg
  rw [List.filter_append, List.length_append]
  by_cases h : v = x ∨ v = y
  · rw [if_pos h, List.filter_cons, if_pos (by simpa using h)]
    rfl
  · rw [if_neg h, List.filter_cons, if_neg (by simpa using h)]
    rfl
/-- each edge behind the first meets an earlier one, no corner lies in three -/
inductive Grown : List (Int × Int) → Prop
  | nil : Grown []
  | snoc {es : List (Int × Int)} {x y : Int} : Grown es → x ≠ y → (es ≠ [] → 0 < deg es x ∨ 0 < deg es y) → (∀ v, deg (es ++ [(x, y)]) v ≤ 2) → Grown (es ++ [(x, y)])
theorem ends {es : List (Int × Int)} (h : Grown es) : (∀ v, deg es v ≠ 1) ∨ ∃ a b, a ≠ b ∧ ∀ v, deg es v = 1 ↔ v = a ∨ v = b := by
  induction h with
  | nil => exact .inl fun v => by simp [deg]
  | @snoc es x y hg hxy hm h2 ih =>
    have hs := fun v => deg_snoc es x y v
    by_cases he : es = []
    · subst he
      refine .inr ⟨x, y, hxy, fun v => ?_⟩
      rw [hs v, show deg [] v = 0 from rfl]
      by_cases h : v = x ∨ v = y
      · simp [h]
      · simp [h]
    · have hx := h2 x
      have hy := h2 y
      rw [hs, if_pos (.inl rfl)] at hx
      rw [hs, if_pos (.inr rfl)] at hy
      rcases ih with ih | ⟨a, b, hab, ih⟩
      · have h1 := ih x
        have h3 := ih y
        rcases hm he with z | z <;> omega
      · -- the ends are a and b
        have key : ∀ v, deg es v = 0 ∨ v = a ∨ v = b ∨ deg es v = 2 ∨ 2 < deg es v := fun v => by
          by_cases z : deg es v = 1
          · exact (ih v).mp z |>.elim (fun e => .inr (.inl e)) fun e => .inr (.inr (.inl e))
          · omega
        have da : deg es a = 1 := (ih a).mpr (.inl rfl)
        have db : deg es b = 1 := (ih b).mpr (.inr rfl)
        have ex : deg es x = 0 ∨ x = a ∨ x = b := by rcases key x with z | z | z | z | z <;> first | exact .inl z | exact .inr (.inl z) | exact .inr (.inr z) | omega
        have ey : deg es y = 0 ∨ y = a ∨ y = b := by rcases key y with z | z | z | z | z <;> first | exact .inl z | exact .inr (.inl z) | exact .inr (.inr z) | omega
        have fin : ∀ v, deg (es ++ [(x, y)]) v = 1 ↔ (deg es v = 0 ∧ (v = x ∨ v = y)) ∨ (deg es v = 1 ∧ ¬ (v = x ∨ v = y)) := fun v => by
          rw [hs v]
          by_cases h : v = x ∨ v = y
          · rw [if_pos h]
            exact ⟨fun z => .inl ⟨by omega, h⟩, fun z => z.elim (fun z => by omega) fun z => absurd h z.2⟩
          · rw [if_neg h]
            exact ⟨fun z => .inr ⟨by omega, h⟩, fun z => z.elim (fun z => absurd z.2 h) fun z => by omega⟩
        rcases ex with ex | rfl | rfl
        · -- x is new, so y is an end
          rcases ey with ey | rfl | rfl
          · rcases hm he with z | z <;> omega
          · refine .inr ⟨x, b, fun e => by rw [e] at ex; omega, fun v => ?_⟩
            rw [fin v, ih v]
            constructor
            · rintro (⟨h0, rfl | rfl⟩ | ⟨rfl | rfl, hn⟩)
              · exact .inl rfl
              · omega
              · exact absurd (.inr rfl) hn
              · exact .inr rfl
            · rintro (rfl | rfl)
              · exact .inl ⟨ex, .inl rfl⟩
              · exact .inr ⟨.inr rfl, fun z => z.elim (fun e => by rw [e] at db; omega) fun e => hab e.symm⟩
          · refine .inr ⟨x, a, fun e => by rw [e] at ex; omega, fun v => ?_⟩
            rw [fin v, ih v]
            constructor
            · rintro (⟨h0, rfl | rfl⟩ | ⟨rfl | rfl, hn⟩)
              · exact .inl rfl
              · omega
              · exact .inr rfl
              · exact absurd (.inr rfl) hn
            · rintro (rfl | rfl)
              · exact .inl ⟨ex, .inl rfl⟩
              · exact .inr ⟨.inl rfl, fun z => z.elim (fun e => by rw [e] at da; omega) fun e => hab e⟩
        · rcases ey with ey | rfl | rfl
          · refine .inr ⟨y, b, fun e => by rw [e] at ey; omega, fun v => ?_⟩
            rw [fin v, ih v]
            constructor
            · rintro (⟨h0, rfl | rfl⟩ | ⟨rfl | rfl, hn⟩)
              · omega
              · exact .inl rfl
              · exact absurd (.inl rfl) hn
              · exact .inr rfl
            · rintro (rfl | rfl)
              · exact .inl ⟨ey, .inr rfl⟩
              · exact .inr ⟨.inr rfl, fun z => z.elim (fun e => hab e.symm) fun e => by rw [e] at db; omega⟩
          · exact absurd rfl hxy
          · refine .inl fun v => ?_
            rw [ne_eq, fin v, ih v]
            rintro (⟨h0, rfl | rfl⟩ | ⟨rfl | rfl, hn⟩)
            · omega
            · omega
            · exact hn (.inl rfl)
            · exact hn (.inr rfl)
        · rcases ey with ey | rfl | rfl
          · refine .inr ⟨y, a, fun e => by rw [e] at ey; omega, fun v => ?_⟩
            rw [fin v, ih v]
            constructor
            · rintro (⟨h0, rfl | rfl⟩ | ⟨rfl | rfl, hn⟩)
              · omega
              · exact .inl rfl
              · exact .inr rfl
              · exact absurd (.inl rfl) hn
            · rintro (rfl | rfl)
              · exact .inl ⟨ey, .inr rfl⟩
              · exact .inr ⟨.inl rfl, fun z => z.elim (fun e => hab e) fun e => by rw [e] at da; omega⟩
          · refine .inl fun v => ?_
            rw [ne_eq, fin v, ih v]
            rintro (⟨h0, rfl | rfl⟩ | ⟨rfl | rfl, hn⟩)
            · omega
            · omega
            · exact hn (.inr rfl)
            · exact hn (.inl rfl)
          · exact absurd rfl hxy
/-! # None, a thing or a text: is None -/
def gIsNS {α : Type} (x : Option α ⊕ Str) (_ : Unit) : Option Bool := some (match x with | .inl none => true | _ => false)
theorem v_isNS {α : Type} {K : PySem.W.Frag} {r : Rep α} : VR2 K rIsN (ir (rSum (rO r) rS)) (ir rN) rB gIsNS := fun G H v w a b c Q s h1 h2 hg k => by
  cases hg
  refine ⟨h2, k _ G H (.refl s) ?_⟩
  cases a with
  | inl a =>
    cases a with
    | none => rw [show v = .non from h1]; rfl
    | some x => rw [decide_eq_false h1.1]; rfl
  | inr x => rw [show v = .str x from h1]; rfl
/-! # The module's tuple of two empty tuples, read as a value -/
def KT (K : PySem.W.Frag) (a : Addr) (xs : List V) : Prop := ∃ (o : Obj) (its : Array Value) (n : Nat), K.lookup a = some o ∧ o.cls = .type "tuple" ∧ o.data = .seq its n ∧ its.size ≤ sizeLine ∧ Vals xs its.toList
def KW (K : PySem.W.Frag) (a : Addr) : Prop := ∃ b c, KT K a [.ref b, .ref c] ∧ KT K b [] ∧ KT K c []
def isTupC (v : Value) : Bool := match v with | .type t => t == "tuple" | _ => false
theorem isTupC_ok {v : Value} (h : isTupC v = true) : v = .type "tuple" := by
  unfold isTupC at h
  split at h
  · next t => rw [show t = "tuple" by simpa using h]
  · cases h
def seqK (K : PySem.W.Frag) (a : Addr) : Option (List Value) := match K.lookup a with
  | some o => if isTupC o.cls then (match o.data with | .seq its _ => some its.toList | _ => none) else none
  | none => none
theorem seqK_ok {K : PySem.W.Frag} {a : Addr} {us : List Value} (h : seqK K a = some us) (hl : us.length ≤ 2) {xs : List V} (hv : Vals xs us) : KT K a xs := by
  unfold seqK at h
  split at h
  · next o ho =>
    split at h
    · next hc =>
      split at h
      · next its n hd =>
        cases h
        refine ⟨o, its, n, ho, isTupC_ok hc, hd, ?_, hv⟩
        rw [sizeLine_eq]
        rw [Array.length_toList] at hl
        omega
      · cases h
    · cases h
  · cases h
def kwB (K : PySem.W.Frag) (a : Addr) : Bool := match seqK K a with
  | some [.ref b, .ref c] => (match seqK K b, seqK K c with | some [], some [] => true | _, _ => false)
  | _ => false
theorem kwB_ok {K : PySem.W.Frag} {a : Addr} (h : kwB K a = true) : KW K a := by
  unfold kwB at h
  split at h
  · next b c e =>
    split at h
    · next e1 e2 => exact ⟨b, c, seqK_ok e (by simp) (.cons rfl (.cons rfl .nil)), seqK_ok e1 (by simp) .nil, seqK_ok e2 (by simp) .nil⟩
    · cases h
  · cases h
def tKW (K : PySem.W.Frag) : TE := fun σ H Q => ∀ a, KW K a → Q (.ref a) H
theorem pe_kw {X : Cx} {x : Str} {pos : Pos} (hg : Gl X x) (hm : ∃ a, X.mg x = some (.ref a) ∧ KW X.K a) (hd : (x == ("__debug__" : Str)) = false := by decide) : PE X (.Name x pos) (tKW X.K) := by
  obtain ⟨a, hm, hk⟩ := hm
  exact ⟨fun b c d H e I h => (pe_glob (v := .ref a) hg hm rfl hd).run b c d H e I (h a hk)⟩
def rKW : Rep (List Int × List Int) := ⟨fun K _ v p => p = ([], []) ∧ ∃ a, v = .ref a ∧ KW K a, fun _ h => h⟩
theorem x_kw {ε : Type} {M : Mx} {R : ERep ε} : EX M R (tKW M.K) (fz rKW) (mC (([], []) : List Int × List Int)) := fun F G H σ e i hR Q p a h => p _ G H H i .refl ⟨⟨rfl, a, rfl, h⟩, rfl⟩ hR
theorem da_KW : Da (ir rKW) (enT2 (enT enI) (enT enI)) := fun K G H v p s h => by
  obtain ⟨rfl, a, rfl, b, c, h1, h2, h3⟩ := h
  exact .tup (.inr h1) (.cons (.tup (.inr h2) .nil) (.cons (.tup (.inr h3) .nil) .nil))
theorem kd_KW : Kd (ir rKW) "tuple" := fun K G H v p s h => by
  obtain ⟨rfl, a, rfl, b, c, ⟨o, its, n, h1, h2, _⟩, _⟩ := h
  exact .kTuple h1 h2
section
variable {X : Cx} {K : PySem.W.Frag}
/-- // by a divisor below 2 ^ 70 -/
def rDivW : R2 := L2.rI (fun _ j => 0 < j ∧ j < 1180591620717411303424) fun i j => .int (i / j)
theorem o_divW : OpR X (binaryOp .FloorDiv) rDivW := by
  refine opI fun i j _ _ _ _ _ hc q => ?_
  obtain ⟨h1, h2⟩ := hc
  have h3 : j.natAbs < 2 ^ 70 := by
    have : (2 : Nat) ^ 70 = 1180591620717411303424 := by decide
    omega
  have h4 := wide_div (i := i) h1 h3 (by decide) (by decide)
  exact floordiv_int (by omega) (by rw [Int.fdiv_eq_ediv_of_nonneg i (by omega)]; exact q) (.inl (PyProof.noPylong_of_log2 h4.2))
def gDivW (i j : Int) : Option Int := if 0 < j ∧ j < 1180591620717411303424 then some (i / j) else none
theorem v_divW : VR2 K rDivW (ir rI) (ir rI) rI gDivW := v_IC fun i j h => h
end
abbrev E_is_number : Type := Option (List (List Int)) × Option Th × Unit
def R_is_number : ERep E_is_number := (eFr (rz (oT (rz (oT rI)))) (eFr rTh eNil))
abbrev l_is_number_0 : Ln E_is_number (List (List Int)) := Ln.z
theorem a_is_number_0 : FrAt R_is_number 0 (rz (oT (rz (oT rI)))) l_is_number_0 := FrAt.z
abbrev l_is_number_1 : Ln E_is_number Th := (Ln.s Ln.z)
theorem a_is_number_1 : FrAt R_is_number 1 rTh l_is_number_1 := (FrAt.sF FrAt.z)
def M_is_number : E_is_number → So E_is_number Bool :=
    (mRet (mAnd (mUn (gIsTh "int") (mPair (mVar l_is_number_1) (mC ()))) (mAnd (mNot (mUn (gIsTh "bool") (mPair (mVar l_is_number_1) (mC ())))) (mChain gLe gLt (mC (0 : Int)) (mUn asI (mVar l_is_number_1)) (mUn gLen (mVar l_is_number_0))))))
def m_is_number (x0 : (List (List Int))) (x1 : Th) : Rs Unit Bool := (M_is_number (some x0, some x1, ())).run none
abbrev u_is_number (p : (List (List Int)) × Th) : Rs Unit Bool := m_is_number (p.1) (p.2)
def sp_is_number (K : PySem.W.Frag) : Sp := spD K cx0 (aCons (ir (rz (oT (rz (oT rI))))) (aOne (ir rTh))) (fz rB) u_is_number
theorem len_is_number (K : PySem.W.Frag) : ∀ vs H Q E, sp_is_number K vs H Q E → vs.length = 2 := len_D (ALen.cons ALen.one)
def t_is_number (K : PySem.W.Frag) : TS :=
    (tRet (tAndV (tCB (rIsi K) (tCons (tVar 1) (tCons (tC (.ty "int")) tNil))) (tAndV (tNotV (tCB (rIsi K) (tCons (tVar 1) (tCons (tC (.ty "bool")) tNil)))) (tChain rLe rLt (tC (.int 0)) (tVar 1) (tCB (rLenL K) (tCons (tVar 0) tNil))))))

theorem sx_is_number {K : PySem.W.Frag} : SX ⟨K, E0, cx0⟩ R_is_number (fz rB) (t_is_number K) M_is_number :=
    (s_ret (x_andV (x_tCB (v_isTh k_int) (x_acons Cv.id (x_var a_is_number_1) (x_aone (x_is Cv.id (x_c (r := rTy "int") (a := ()) fun _ => rfl))))) (x_andV (x_notV (x_tCB (v_isTh k_bool) (x_acons Cv.id (x_var a_is_number_1) (x_aone (x_is Cv.id (x_c (r := rTy "bool") (a := ()) fun _ => rfl)))))) (x_chain v_le v_lt (x_c fun _ => rfl) (x_cast c_asI (x_var a_is_number_1)) (x_tCB v_lenT (x_aone (x_is Cv.ob (x_var a_is_number_0))))))))
theorem rd_is_number {K : PySem.W.Frag} {H : Hp} {vs : List V} {Q : VK} {E : XK} {N : List Str} (h : sp_is_number K vs H Q E) (hN : N.length = 2 := by rfl) : t_is_number K { nx := fun _ H' => Q .non H', rt := Q } (start N vs) H := by
  have h : spD K cx0 (aCons (ir (rz (oT (rz (oT rI))))) (aOne (ir rTh))) (fz rB) (fun (a : (List (List Int)) × Th) => (M_is_number (some a.1, some a.2, ())).run none) vs H Q E := h
  refine d_D (dn := none) (ra := (aCons (ir (rz (oT (rz (oT rI))))) (aOne (ir rTh)))) (e0 := fun (a : (List (List Int)) × Th) => (some a.1, some a.2, ())) (sx_is_number) ?_ ?_ h
  · intro G H vs a s hr
    obtain ⟨v0, _, rfl, h0, ⟨v1, rfl, h1⟩⟩ := hr
    rw [show start N [v0, v1] = [some v0, some v1] by simp [L2.start, hN]]
    exact (e_fr h0 (e_fr h1 e_nil))
  · intro b h; cases h

abbrev E_is_wish : Type := Option (List (List Int)) × Option Th × Option (List (Int × Bool)) × Option Th × Option Th × Unit
def R_is_wish : ERep E_is_wish := (eFr (rz (oT (rz (oT rI)))) (eFr rTh (eOw (oDI rB) (eFr rTh (eFr rTh eNil)))))
abbrev l_is_wish_0 : Ln E_is_wish (List (List Int)) := Ln.z
theorem a_is_wish_0 : FrAt R_is_wish 0 (rz (oT (rz (oT rI)))) l_is_wish_0 := FrAt.z
abbrev l_is_wish_1 : Ln E_is_wish Th := (Ln.s Ln.z)
theorem a_is_wish_1 : FrAt R_is_wish 1 rTh l_is_wish_1 := (FrAt.sF FrAt.z)
abbrev l_is_wish_2 : Ln E_is_wish (List (Int × Bool)) := (Ln.s (Ln.s Ln.z))
theorem a_is_wish_2 : OwAt R_is_wish 2 ownN (oDI rB) l_is_wish_2 := (OwAt.sF (OwAt.sF OwAt.z))
abbrev l_is_wish_3 : Ln E_is_wish Th := (Ln.s (Ln.s (Ln.s Ln.z)))
theorem a_is_wish_3 : FrAt R_is_wish 3 rTh l_is_wish_3 := (FrAt.sF (FrAt.sF (FrAt.sO FrAt.z)))
abbrev l_is_wish_4 : Ln E_is_wish Th := (Ln.s (Ln.s (Ln.s (Ln.s Ln.z))))
theorem a_is_wish_4 : FrAt R_is_wish 4 rTh l_is_wish_4 := (FrAt.sF (FrAt.sF (FrAt.sO (FrAt.sF FrAt.z))))
def M_is_wish : E_is_wish → So E_is_wish Bool :=
    (mSeq (mIfB (mOr (mNot (mUn (gIsTh "tuple") (mPair (mVar l_is_wish_1) (mC ())))) (mOp gNe (mUn gLen (mUn asT (mVar l_is_wish_1))) (mC (2 : Int)))) (mRet (mC false)) mNext)
    (mSeq (mSet l_is_wish_2 (mC ([] : (List (Int × Bool)))))
    (mCut (mKill (fun e => (Ln.put l_is_wish_3 none (Ln.put l_is_wish_4 none e))) (mFor (mUn asT (mVar l_is_wish_1)) (pN l_is_wish_3)
    (mKill (fun e => (Ln.put l_is_wish_3 none (Ln.put l_is_wish_4 none e))) (mSeq (mIfS (mNot (mUn (gIsTh "tuple") (mPair (mVar l_is_wish_3) (mC ())))) (mRet (mC false)) mNext)
    (mKill (fun e => (Ln.put l_is_wish_4 none e)) (mFor (mUn asT (mVar l_is_wish_3)) (pN l_is_wish_4)
    (mKill (fun e => (Ln.put l_is_wish_4 none e)) (mSeq (mIfB (mOr (mNot (mCall (fun p => m_is_number (p.1) (p.2)) (mPair (mVar l_is_wish_0) (mVar l_is_wish_4)))) (mOp dIn (mUn asI (mVar l_is_wish_4)) (mVar l_is_wish_2))) (mRet (mC false)) mNext)
    (mSetI l_is_wish_2 gDPut (mUn asI (mVar l_is_wish_4)) (mC true))))))))))
    (mRet (mC true)))))
def m_is_wish (x0 : (List (List Int))) (x1 : Th) : Rs Unit Bool := (M_is_wish (some x0, some x1, none, none, none, ())).run none
abbrev u_is_wish (p : (List (List Int)) × Th) : Rs Unit Bool := m_is_wish (p.1) (p.2)
def sp_is_wish (K : PySem.W.Frag) : Sp := spD K cx0 (aCons (ir (rz (oT (rz (oT rI))))) (aOne (ir rTh))) (fz rB) u_is_wish
theorem len_is_wish (K : PySem.W.Frag) : ∀ vs H Q E, sp_is_wish K vs H Q E → vs.length = 2 := len_D (ALen.cons ALen.one)
def t_is_wish (K : PySem.W.Frag) : TS :=
    (tSeq (tIfS (tOr (tNot (tB (tCB (rIsi K) (tCons (tVar 1) (tCons (tC (.ty "tuple")) tNil))))) (tTest (tOp rNe (tCB (rLenL K) (tCons (tVar 1) tNil)) (tC (.int 2))))) (tRet (tC (.bl false))) tNext)
    (tSeq (tAsg tDNewK (gName 2))
    (tSeq (tFor (iTup K (tVar 1)) (gName 3)
    (tSeq (tIfS (tNot (tB (tCB (rIsi K) (tCons (tVar 3) (tCons (tC (.ty "tuple")) tNil))))) (tRet (tC (.bl false))) tNext)
    (tFor (iTup K (tVar 3)) (gName 4)
    (tSeq (tIfS (tOr (tNot (tB (tCall (sp_is_number K) [] E0 (tCons (tVar 0) (tCons (tVar 4) tNil))))) (tB (tDIn (tVar 4) (tVar 2)))) (tRet (tC (.bl false))) tNext)
    (tAsg (tC (.bl true)) (gSub (tVar 2) (tVar 4) rSetD))))))
    (tRet (tC (.bl true))))))

theorem sx_is_wish {K : PySem.W.Frag} : SX ⟨K, E0, cx0⟩ R_is_wish (fz rB) (t_is_wish K) M_is_wish :=
    (s_seq (s_ifB (x_or (x_not (x_tB (x_tCB (v_isTh k_tuple) (x_acons Cv.id (x_var a_is_wish_1) (x_aone (x_is Cv.id (x_c (r := rTy "tuple") (a := ()) fun _ => rfl))))))) (x_test (x_tOp v_neI Cv.id (x_tCB v_lenT (x_aone (x_is Cv.ob (x_cast c_asT (x_var a_is_wish_1))))) (x_is Cv.id (x_c fun _ => rfl))))) (s_ret (x_c fun _ => rfl)) s_next)
    (s_seq (s_setO a_is_wish_2 (x_dnewK (r := rB)))
    (s_seqC (s_kill (Kl.and (Kl.fr a_is_wish_3) (Kl.fr a_is_wish_4)) (s_for (vs := [3]) (x_iT (x_cast c_asT (x_var a_is_wish_1))) (n_name a_is_wish_3 (by decide))
    (s_kill (Kl.and (Kl.fr a_is_wish_3) (Kl.fr a_is_wish_4)) (s_seq (s_if (x_not (x_tB (x_tCB (v_isTh k_tuple) (x_acons Cv.id (x_var a_is_wish_3) (x_aone (x_is Cv.id (x_c (r := rTy "tuple") (a := ()) fun _ => rfl))))))) (s_ret (x_c fun _ => rfl)) s_next)
    (s_kill (Kl.fr a_is_wish_4) (s_for (vs := [4]) (x_iT (x_cast c_asT (x_var a_is_wish_3))) (n_name a_is_wish_4 (by decide))
    (s_kill (Kl.fr a_is_wish_4) (s_seq (s_ifB (x_or (x_not (x_tB (x_call (x_acons Cv.id (x_var a_is_wish_0) (x_aone (x_is Cv.id (x_var a_is_wish_4))))))) (x_tB (x_din ask_DI (x_cast c_asI (x_var a_is_wish_4)) (x_varL (Late.ow a_is_wish_2))))) (s_ret (x_c fun _ => rfl)) s_next)
    (s_setI v_dputI nt_DI ownN_q a_is_wish_2 (x_c fun _ => rfl) (x_cast c_asI (x_var a_is_wish_4)))))))))))
    (s_ret (x_c fun _ => rfl)))))
theorem rd_is_wish {K : PySem.W.Frag} {H : Hp} {vs : List V} {Q : VK} {E : XK} {N : List Str} (h : sp_is_wish K vs H Q E) (hN : N.length = 5 := by rfl) : t_is_wish K { nx := fun _ H' => Q .non H', rt := Q } (start N vs) H := by
  have h : spD K cx0 (aCons (ir (rz (oT (rz (oT rI))))) (aOne (ir rTh))) (fz rB) (fun (a : (List (List Int)) × Th) => (M_is_wish (some a.1, some a.2, none, none, none, ())).run none) vs H Q E := h
  refine d_D (dn := none) (ra := (aCons (ir (rz (oT (rz (oT rI))))) (aOne (ir rTh)))) (e0 := fun (a : (List (List Int)) × Th) => (some a.1, some a.2, none, none, none, ())) (sx_is_wish) ?_ ?_ h
  · intro G H vs a s hr
    obtain ⟨v0, _, rfl, h0, ⟨v1, rfl, h1⟩⟩ := hr
    rw [show start N [v0, v1] = [some v0, some v1, none, none, none] by simp [L2.start, hN]]
    exact (e_fr h0 (e_fr h1 (e_owN (e_frN (e_frN e_nil)))))
  · intro b h; cases h

abbrev E_is_wished : Type := Option ((List Int) × (List Int)) × Option (List Int) × Option (List Int) × Option (List Int) × Unit
def R_is_wished : ERep E_is_wished := (eFr (rz (oT2 (rz (oT rI)) (rz (oT rI)))) (eBo (oL rI) (eFr (rz (oT rI)) (eFr (rz (oT rI)) eNil))))
abbrev l_is_wished_0 : Ln E_is_wished ((List Int) × (List Int)) := Ln.z
theorem a_is_wished_0 : FrAt R_is_wished 0 (rz (oT2 (rz (oT rI)) (rz (oT rI)))) l_is_wished_0 := FrAt.z
abbrev l_is_wished_1 : Ln E_is_wished (List Int) := (Ln.s Ln.z)
theorem a_is_wished_1 : BoAt R_is_wished 1 (oL rI) l_is_wished_1 := (BoAt.sF BoAt.z)
abbrev l_is_wished_2 : Ln E_is_wished (List Int) := (Ln.s (Ln.s Ln.z))
theorem a_is_wished_2 : FrAt R_is_wished 2 (rz (oT rI)) l_is_wished_2 := (FrAt.sF (FrAt.sB FrAt.z))
abbrev l_is_wished_3 : Ln E_is_wished (List Int) := (Ln.s (Ln.s (Ln.s Ln.z)))
theorem a_is_wished_3 : FrAt R_is_wished 3 (rz (oT rI)) l_is_wished_3 := (FrAt.sF (FrAt.sB (FrAt.sF FrAt.z)))
def M_is_wished : E_is_wished → So E_is_wished Bool :=
    (mSeq (mAsgN (mVar l_is_wished_0) (p2 (pN l_is_wished_2) (pN l_is_wished_3)))
    (mRet (mAnd (mOp gEq (mUn gId (mSlL gCut l_is_wished_1 (mC none) (mPart (mUn gLen (mVar l_is_wished_2))))) (mVar l_is_wished_2)) (mOp gEq (mUn gId (mSlL gCut l_is_wished_1 (mPart (mOp gSubI (mUn gLen (mVar l_is_wished_1)) (mUn gLen (mVar l_is_wished_3)))) (mC none))) (mVar l_is_wished_3)))))
def m_is_wished (x0 : ((List Int) × (List Int))) (x1 : (List Int)) : Rs Unit Bool := (M_is_wished (some x0, some x1, none, none, ())).run none
abbrev u_is_wished (p : ((List Int) × (List Int)) × (List Int)) : Rs Unit Bool := m_is_wished (p.1) (p.2)
def sp_is_wished (K : PySem.W.Frag) : Sp := spD K cx0 (aCons (ir (rz (oT2 (rz (oT rI)) (rz (oT rI))))) (aOne (rd (oL rI)))) (fz rB) u_is_wished
theorem len_is_wished (K : PySem.W.Frag) : ∀ vs H Q E, sp_is_wished K vs H Q E → vs.length = 2 := len_D (ALen.cons ALen.one)
def t_is_wished (K : PySem.W.Frag) : TS :=
    (tSeq (tAsg (tVar 0) (gTup K 2 (gCons (gName 2) (gCons (gName 3) gNil))))
    (tRet (tAndV (tOp (rEqD K) (tCB (rTupOf K) (tCons (tSl (rSlL K) (tVar 1) tNoPart (tPart (tCB (rLenL K) (tCons (tVar 2) tNil)))) tNil)) (tVar 2)) (tOp (rEqD K) (tCB (rTupOf K) (tCons (tSl (rSlL K) (tVar 1) (tPart (tOp rSub (tCB (rLenL K) (tCons (tVar 1) tNil)) (tCB (rLenL K) (tCons (tVar 3) tNil)))) tNoPart) tNil)) (tVar 3)))))

theorem sx_is_wished {K : PySem.W.Frag} : SX ⟨K, E0, cx0⟩ R_is_wished (fz rB) (t_is_wished K) M_is_wished :=
    (s_seq (s_asgN (vs := [2, 3]) (x_var a_is_wished_0) (n_tup2 (n_name a_is_wished_2 (by decide)) (n_name a_is_wished_3 (by decide))))
    (s_ret (x_andV (x_tOp (v_eqD (da_Tr da_I) (da_Tr da_I) (eq_T eq_I) (by decide)) Cv.ob (x_tCB v_tupOfL (x_aone (x_is Cv.ob (x_fz (x_slLF v_slL (Late.bo a_is_wished_1) x_noPart (x_part (x_tCB v_lenT (x_aone (x_is Cv.ob (x_var a_is_wished_2)))))))))) (x_is Cv.ob (x_var a_is_wished_2))) (x_tOp (v_eqD (da_Tr da_I) (da_Tr da_I) (eq_T eq_I) (by decide)) Cv.ob (x_tCB v_tupOfL (x_aone (x_is Cv.ob (x_fz (x_slLF v_slL (Late.bo a_is_wished_1) (x_part (x_tOp v_sub Cv.id (x_tCB v_lenL (x_aone (x_varL (Late.bo a_is_wished_1)))) (x_is Cv.id (x_tCB v_lenT (x_aone (x_is Cv.ob (x_var a_is_wished_3))))))) x_noPart))))) (x_is Cv.ob (x_var a_is_wished_3))))))
theorem rd_is_wished {K : PySem.W.Frag} {H : Hp} {vs : List V} {Q : VK} {E : XK} {N : List Str} (h : sp_is_wished K vs H Q E) (hN : N.length = 4 := by rfl) : t_is_wished K { nx := fun _ H' => Q .non H', rt := Q } (start N vs) H := by
  have h : spD K cx0 (aCons (ir (rz (oT2 (rz (oT rI)) (rz (oT rI))))) (aOne (rd (oL rI)))) (fz rB) (fun (a : ((List Int) × (List Int)) × (List Int)) => (M_is_wished (some a.1, some a.2, none, none, ())).run none) vs H Q E := h
  refine d_D (dn := none) (ra := (aCons (ir (rz (oT2 (rz (oT rI)) (rz (oT rI))))) (aOne (rd (oL rI))))) (e0 := fun (a : ((List Int) × (List Int)) × (List Int)) => (some a.1, some a.2, none, none, ())) (sx_is_wished) ?_ ?_ h
  · intro G H vs a s hr
    obtain ⟨v0, _, rfl, h0, ⟨v1, rfl, h1⟩⟩ := hr
    rw [show start N [v0, v1] = [some v0, some v1, none, none] by simp [L2.start, hN]]
    exact (e_fr h0 (e_bo h1 bo_D (e_frN (e_frN e_nil))))
  · intro b h; cases h

abbrev E_allowed : Type := Option (List (List Int)) × Option ((List Int) × (List Int)) × Option (List Int) × Option (List Int) × Option (List Int) × Option Int × Option Int × Unit
def R_allowed : ERep E_allowed := (eFr (rz (oT (rz (oT rI)))) (eFr (rz (oT2 (rz (oT rI)) (rz (oT rI)))) (eBo (oL rI) (eFr (rz (oT rI)) (eFr (rz (oT rI)) (eFr rI (eFr rI eNil)))))))
abbrev l_allowed_0 : Ln E_allowed (List (List Int)) := Ln.z
theorem a_allowed_0 : FrAt R_allowed 0 (rz (oT (rz (oT rI)))) l_allowed_0 := FrAt.z
abbrev l_allowed_1 : Ln E_allowed ((List Int) × (List Int)) := (Ln.s Ln.z)
theorem a_allowed_1 : FrAt R_allowed 1 (rz (oT2 (rz (oT rI)) (rz (oT rI)))) l_allowed_1 := (FrAt.sF FrAt.z)
abbrev l_allowed_2 : Ln E_allowed (List Int) := (Ln.s (Ln.s Ln.z))
theorem a_allowed_2 : BoAt R_allowed 2 (oL rI) l_allowed_2 := (BoAt.sF (BoAt.sF BoAt.z))
abbrev l_allowed_3 : Ln E_allowed (List Int) := (Ln.s (Ln.s (Ln.s Ln.z)))
theorem a_allowed_3 : FrAt R_allowed 3 (rz (oT rI)) l_allowed_3 := (FrAt.sF (FrAt.sF (FrAt.sB FrAt.z)))
abbrev l_allowed_4 : Ln E_allowed (List Int) := (Ln.s (Ln.s (Ln.s (Ln.s Ln.z))))
theorem a_allowed_4 : FrAt R_allowed 4 (rz (oT rI)) l_allowed_4 := (FrAt.sF (FrAt.sF (FrAt.sB (FrAt.sF FrAt.z))))
abbrev l_allowed_5 : Ln E_allowed Int := (Ln.s (Ln.s (Ln.s (Ln.s (Ln.s Ln.z)))))
theorem a_allowed_5 : FrAt R_allowed 5 rI l_allowed_5 := (FrAt.sF (FrAt.sF (FrAt.sB (FrAt.sF (FrAt.sF FrAt.z)))))
abbrev l_allowed_6 : Ln E_allowed Int := (Ln.s (Ln.s (Ln.s (Ln.s (Ln.s (Ln.s Ln.z))))))
theorem a_allowed_6 : FrAt R_allowed 6 rI l_allowed_6 := (FrAt.sF (FrAt.sF (FrAt.sB (FrAt.sF (FrAt.sF (FrAt.sF FrAt.z))))))
def M_allowed : E_allowed → So E_allowed (List Int) :=
    (mSeq (mAsgN (mVar l_allowed_1) (p2 (pN l_allowed_3) (pN l_allowed_4)))
    (mSeq (mSet l_allowed_5 (mOp gSubI (mUn gLen (mVar l_allowed_0)) (mUn gLen (mVar l_allowed_2))))
    (mSeq (mIfS (mOp gEq (mVar l_allowed_5) (mC (0 : Int))) (mRet (mUn szOk (mC ([] : List Int)))) mNext)
    (mSeq (mIfS (mOp gLt (mUn gLen (mVar l_allowed_2)) (mUn gLen (mVar l_allowed_3))) (mRet (mUn szOk (mCons (mOp gIx (mVar l_allowed_3) (mUn gLen (mVar l_allowed_2))) (mC [])))) mNext)
    (mSeq (mIfS (mOp gLe (mVar l_allowed_5) (mUn gLen (mVar l_allowed_4))) (mRet (mUn szOk (mCons (mOp gIx (mVar l_allowed_4) (mOp gSubI (mUn gLen (mVar l_allowed_4)) (mVar l_allowed_5))) (mC [])))) mNext)
    (mRet (mLc (mRng1 (mUn gLen (mVar l_allowed_0))) (pN l_allowed_6) (mAnd (mOp gNin (mVar l_allowed_6) (mVar l_allowed_2)) (mOp gNin (mVar l_allowed_6) (mVar l_allowed_4))) (mVar l_allowed_6) (fun e => Ln.put l_allowed_6 none (id e)) (fun e e1 => (fun _ e1 => e1) e (Ln.put l_allowed_6 (Ln.get l_allowed_6 (id e)) e1)))))))))
def m_allowed (x0 : (List (List Int))) (x1 : ((List Int) × (List Int))) (x2 : (List Int)) : Rs Unit (List Int) := (M_allowed (some x0, some x1, some x2, none, none, none, none, ())).run none
abbrev u_allowed (p : (List (List Int)) × ((List Int) × (List Int)) × (List Int)) : Rs Unit (List Int) := m_allowed (p.1) (p.2.1) (p.2.2)
def sp_allowed (K : PySem.W.Frag) : Sp := spD K cx0 (aCons (ir (rz (oT (rz (oT rI))))) (aCons (ir (rz (oT2 (rz (oT rI)) (rz (oT rI))))) (aOne (rd (oL rI))))) (fs (oL rI)) u_allowed
theorem len_allowed (K : PySem.W.Frag) : ∀ vs H Q E, sp_allowed K vs H Q E → vs.length = 3 := len_D (ALen.cons (ALen.cons ALen.one))
def t_allowed (K : PySem.W.Frag) : TS :=
    (tSeq (tAsg (tVar 1) (gTup K 2 (gCons (gName 3) (gCons (gName 4) gNil))))
    (tSeq (tAsg (tOp rSub (tCB (rLenL K) (tCons (tVar 0) tNil)) (tCB (rLenL K) (tCons (tVar 2) tNil))) (gName 5))
    (tSeq (tIfS (tTest (tOp rEq (tVar 5) (tC (.int 0)))) (tRet (tLst tNil)) tNext)
    (tSeq (tIfS (tTest (tOp rLt (tCB (rLenL K) (tCons (tVar 2) tNil)) (tCB (rLenL K) (tCons (tVar 3) tNil)))) (tRet (tLst (tCons (tOp (rIxT K) (tVar 3) (tCB (rLenL K) (tCons (tVar 2) tNil))) tNil))) tNext)
    (tSeq (tIfS (tTest (tOp rLe (tVar 5) (tCB (rLenL K) (tCons (tVar 4) tNil)))) (tRet (tLst (tCons (tOp (rIxT K) (tVar 4) (tOp rSub (tCB (rLenL K) (tCons (tVar 4) tNil)) (tVar 5))) tNil))) tNext)
    (tRet (tLc (iRng1 (tCons (tCB (rLenL K) (tCons (tVar 0) tNil)) tNil)) (gName 6) (tAnd (tTest (tOp (rIn K true) (tVar 6) (tVar 2))) (tTest (tOp (rIn K true) (tVar 6) (tVar 4)))) (tVar 6) [6])))))))

theorem sx_allowed {K : PySem.W.Frag} : SX ⟨K, E0, cx0⟩ R_allowed (fs (oL rI)) (t_allowed K) M_allowed :=
    (s_seq (s_asgN (vs := [3, 4]) (x_var a_allowed_1) (n_tup2 (n_name a_allowed_3 (by decide)) (n_name a_allowed_4 (by decide))))
    (s_seq (s_set a_allowed_5 (x_tOp v_sub Cv.id (x_tCB v_lenT (x_aone (x_is Cv.ob (x_var a_allowed_0)))) (x_is Cv.id (x_tCB v_lenL (x_aone (x_varL (Late.bo a_allowed_2)))))))
    (s_seq (s_if (x_test (x_tOp v_eqI Cv.id (x_var a_allowed_5) (x_is Cv.id (x_c fun _ => rfl)))) (s_ret (x_lst (x_lnil (r := rI)))) s_next)
    (s_seq (s_if (x_test (x_tOp v_lt Cv.id (x_tCB v_lenL (x_aone (x_varL (Late.bo a_allowed_2)))) (x_is Cv.id (x_tCB v_lenT (x_aone (x_is Cv.ob (x_var a_allowed_3))))))) (s_ret (x_lst (x_lcons (x_tOp v_ixT Cv.ob (x_var a_allowed_3) (x_is Cv.id (x_tCB v_lenL (x_aone (x_varL (Late.bo a_allowed_2)))))) x_lnil))) s_next)
    (s_seq (s_if (x_test (x_tOp v_le Cv.id (x_var a_allowed_5) (x_is Cv.id (x_tCB v_lenT (x_aone (x_is Cv.ob (x_var a_allowed_4))))))) (s_ret (x_lst (x_lcons (x_tOp v_ixT Cv.ob (x_var a_allowed_4) (x_is Cv.id (x_tOp v_sub Cv.id (x_tCB v_lenT (x_aone (x_is Cv.ob (x_var a_allowed_4)))) (x_is Cv.id (x_var a_allowed_5))))) x_lnil))) s_next)
    (s_ret (x_lc (x_rng1 (x_aone (x_is Cv.id (x_tCB v_lenT (x_aone (x_is Cv.ob (x_var a_allowed_0))))))) (Wp.cons a_allowed_6 Wp.nil) (n_name a_allowed_6 (by decide)) (x_and (x_test (x_tOp v_ninLI Cv.id (x_var a_allowed_6) (x_varL (Late.bo a_allowed_2)))) (x_test (x_tOp v_ninTI Cv.id (x_var a_allowed_6) (x_is Cv.ob (x_var a_allowed_4))))) (x_var a_allowed_6))))))))
theorem rd_allowed {K : PySem.W.Frag} {H : Hp} {vs : List V} {Q : VK} {E : XK} {N : List Str} (h : sp_allowed K vs H Q E) (hN : N.length = 7 := by rfl) : t_allowed K { nx := fun _ H' => Q .non H', rt := Q } (start N vs) H := by
  have h : spD K cx0 (aCons (ir (rz (oT (rz (oT rI))))) (aCons (ir (rz (oT2 (rz (oT rI)) (rz (oT rI))))) (aOne (rd (oL rI))))) (fs (oL rI)) (fun (a : (List (List Int)) × ((List Int) × (List Int)) × (List Int)) => (M_allowed (some a.1, some a.2.1, some a.2.2, none, none, none, none, ())).run none) vs H Q E := h
  refine d_D (dn := none) (ra := (aCons (ir (rz (oT (rz (oT rI))))) (aCons (ir (rz (oT2 (rz (oT rI)) (rz (oT rI))))) (aOne (rd (oL rI)))))) (e0 := fun (a : (List (List Int)) × ((List Int) × (List Int)) × (List Int)) => (some a.1, some a.2.1, some a.2.2, none, none, none, none, ())) (sx_allowed) ?_ ?_ h
  · intro G H vs a s hr
    obtain ⟨v0, _, rfl, h0, ⟨v1, _, rfl, h1, ⟨v2, rfl, h2⟩⟩⟩ := hr
    rw [show start N [v0, v1, v2] = [some v0, some v1, some v2, none, none, none, none] by simp [L2.start, hN]]
    exact (e_fr h0 (e_fr h1 (e_bo h2 bo_D (e_frN (e_frN (e_frN (e_frN e_nil)))))))
  · intro b h; cases h

abbrev E_lpen : Type := Option (List Int) × Unit
def R_lpen : ERep E_lpen := (eFr rScr eNil)
abbrev l_lpen_0 : Ln E_lpen (List Int) := Ln.z
theorem a_lpen_0 : FrAt R_lpen 0 rScr l_lpen_0 := FrAt.z
def M_lpen : E_lpen → So E_lpen ((List Int) × Int × Int) :=
    (mRet (mUn some (mPair (mVar l_lpen_0) (mPair (mC (0 : Int)) (mC (0 : Int))))))
def m_lpen (x0 : (List Int)) : Rs Unit ((List Int) × Int × Int) := (M_lpen (some x0, ())).run none
abbrev u_lpen (p : (List Int)) : Rs Unit ((List Int) × Int × Int) := m_lpen p
def sp_lpen (K : PySem.W.Frag) : Sp := spD K cx0 (aOne (ir rScr)) (fs oPd) u_lpen
theorem len_lpen (K : PySem.W.Frag) : ∀ vs H Q E, sp_lpen K vs H Q E → vs.length = 1 := len_D ALen.one
def t_lpen (K : PySem.W.Frag) : TS :=
    (tRet (tDisp [((tC (.str "cells")), (tVar 0)), ((tC (.str "at")), (tC (.int 0))), ((tC (.str "left")), (tC (.int 0)))]))

theorem sx_lpen {K : PySem.W.Frag} : SX ⟨K, E0, cx0⟩ R_lpen (fs oPd) (t_lpen K) M_lpen :=
    (s_ret (x_pdnew a_lpen_0))
theorem rd_lpen {K : PySem.W.Frag} {H : Hp} {vs : List V} {Q : VK} {E : XK} {N : List Str} (h : sp_lpen K vs H Q E) (hN : N.length = 1 := by rfl) : t_lpen K { nx := fun _ H' => Q .non H', rt := Q } (start N vs) H := by
  have h : spD K cx0 (aOne (ir rScr)) (fs oPd) (fun (a : (List Int)) => (M_lpen (some a, ())).run none) vs H Q E := h
  refine d_D (dn := none) (ra := (aOne (ir rScr))) (e0 := fun (a : (List Int)) => (some a, ())) (sx_lpen) ?_ ?_ h
  · intro G H vs a s hr
    obtain ⟨v0, rfl, h0⟩ := hr
    rw [show start N [v0] = [some v0] by simp [L2.start, hN]]
    exact (e_fr h0 e_nil)
  · intro b h; cases h

abbrev E_ldraw : Type := Option ((List Int) × Int × Int) × Option Int × Option Int × Option Int × Option Int × Option Int × Unit
def R_ldraw : ERep E_ldraw := (eIo 0 oPd (eFr rI (eFr rI (eFr rI (eFr rI (eFr rI eNil))))))
abbrev l_ldraw_0 : Ln E_ldraw ((List Int) × Int × Int) := Ln.z
theorem a_ldraw_0 : OwAt R_ldraw 0 (ownI 0) oPd l_ldraw_0 := OwAt.z
abbrev l_ldraw_1 : Ln E_ldraw Int := (Ln.s Ln.z)
theorem a_ldraw_1 : FrAt R_ldraw 1 rI l_ldraw_1 := (FrAt.sO FrAt.z)
abbrev l_ldraw_2 : Ln E_ldraw Int := (Ln.s (Ln.s Ln.z))
theorem a_ldraw_2 : FrAt R_ldraw 2 rI l_ldraw_2 := (FrAt.sO (FrAt.sF FrAt.z))
abbrev l_ldraw_3 : Ln E_ldraw Int := (Ln.s (Ln.s (Ln.s Ln.z)))
theorem a_ldraw_3 : FrAt R_ldraw 3 rI l_ldraw_3 := (FrAt.sO (FrAt.sF (FrAt.sF FrAt.z)))
abbrev l_ldraw_4 : Ln E_ldraw Int := (Ln.s (Ln.s (Ln.s (Ln.s Ln.z))))
theorem a_ldraw_4 : FrAt R_ldraw 4 rI l_ldraw_4 := (FrAt.sO (FrAt.sF (FrAt.sF (FrAt.sF FrAt.z))))
abbrev l_ldraw_5 : Ln E_ldraw Int := (Ln.s (Ln.s (Ln.s (Ln.s (Ln.s Ln.z)))))
theorem a_ldraw_5 : FrAt R_ldraw 5 rI l_ldraw_5 := (FrAt.sO (FrAt.sF (FrAt.sF (FrAt.sF (FrAt.sF FrAt.z)))))
def M_ldraw : E_ldraw → So E_ldraw Int :=
    (mSeq (mKill (fun e => (Ln.put l_ldraw_2 none e)) (mIfS (mOp gGt (mOpL gPl l_ldraw_0 (mC ())) (mC (0 : Int))) (mSeq (mSet l_ldraw_2 (mOp gMod (mOpL gPl l_ldraw_0 (mC ())) (mVar l_ldraw_1)))
    (mSeq (mSetI l_ldraw_0 gSetPl (mC ()) (mOp gDivW (mOpL gPl l_ldraw_0 (mC ())) (mVar l_ldraw_1)))
    (mRet (mVar l_ldraw_2)))) mNext))
    (mSeq (mSet l_ldraw_3 (mOpL gPa l_ldraw_0 (mC ())))
    (mSeq (mSetI l_ldraw_0 gSetPa (mC ()) (mOp gAdd (mVar l_ldraw_3) (mC (1 : Int))))
    (mSeq (mSet l_ldraw_4 (mOp gAdd (mOp gMul (mOp gMul (mC (91009 : Int)) (mVar l_ldraw_3)) (mVar l_ldraw_3)) (mC (17 : Int))))
    (mCut (mIfS (mOp gLt (mVar l_ldraw_3) (mUn gLen (mOpL gPc l_ldraw_0 (mC ())))) (mSeq (mSet l_ldraw_4 (mOp gIx (mOpL gPc l_ldraw_0 (mC ())) (mVar l_ldraw_3)))
    (mIfS (mOp gGe (mUn gAbs (mVar l_ldraw_4)) (mC (1000000000000000000 : Int))) (mSeq (mSetI l_ldraw_0 gSetPl (mC ()) (mOp gDivW (mUn gAbs (mVar l_ldraw_4)) (mVar l_ldraw_1)))
    (mRet (mOp gMod (mUn gAbs (mVar l_ldraw_4)) (mVar l_ldraw_1)))) mNext)) (mIfS (mOp gGt (mUn gLen (mOpL gPc l_ldraw_0 (mC ()))) (mC (0 : Int))) (mSet l_ldraw_4 (mOp gAdd (mOp gMod (mOp gIx (mOpL gPc l_ldraw_0 (mC ())) (mOp gMod (mVar l_ldraw_3) (mUn gLen (mOpL gPc l_ldraw_0 (mC ()))))) (mC (10000000000000000 : Int))) (mOp gMul (mC (7919 : Int)) (mVar l_ldraw_3)))) mNext))
    (mSeq (mSet l_ldraw_5 (mOp gMod (mOp gMul (mOp gAdd (mOp gAdd (mOp gMod (mVar l_ldraw_4) (mC (2147483629 : Int))) (mOp gMul (mC (50021 : Int)) (mVar l_ldraw_3))) (mC (7 : Int))) (mC (48271 : Int))) (mC (2147483587 : Int))))
    (mSeq (mSet l_ldraw_5 (mOp gMod (mOp gAdd (mOp gAdd (mOp gMul (mVar l_ldraw_5) (mVar l_ldraw_5)) (mOp gMul (mC (69997 : Int)) (mVar l_ldraw_5))) (mVar l_ldraw_3)) (mC (2147483563 : Int))))
    (mRet (mOp gMod (mOp gDivW (mVar l_ldraw_5) (mC (32 : Int))) (mVar l_ldraw_1))))))))))
def m_ldraw (x0 : ((List Int) × Int × Int)) (x1 : Int) : Rs ((List Int) × Int × Int) Int := (M_ldraw (some x0, some x1, none, none, none, none, ())).runI l_ldraw_0 none
abbrev u_ldraw (s : ((List Int) × Int × Int)) (p : Int) : Rs ((List Int) × Int × Int) Int := m_ldraw s p
def sp_ldraw (K : PySem.W.Frag) : Sp := spI K cx0 oPd (aOne (ir rI)) (fz rI) u_ldraw
theorem len_ldraw (K : PySem.W.Frag) : ∀ vs H Q E, sp_ldraw K vs H Q E → vs.length = 2 := len_I ALen.one
def t_ldraw (K : PySem.W.Frag) : TS :=
    (tSeq (tIfS (tTest (tOp rGt (tDGet (tVar 0) (tC (.str "left"))) (tC (.int 0)))) (tSeq (tAsg (tOp rMod (tDGet (tVar 0) (tC (.str "left"))) (tVar 1)) (gName 2))
    (tSeq (tAsg (tOp rDivW (tDGet (tVar 0) (tC (.str "left"))) (tVar 1)) (gSub (tVar 0) (tC (.str "left")) rSetD))
    (tRet (tVar 2)))) tNext)
    (tSeq (tAsg (tDGet (tVar 0) (tC (.str "at"))) (gName 3))
    (tSeq (tAsg (tOp rAdd (tVar 3) (tC (.int 1))) (gSub (tVar 0) (tC (.str "at")) rSetD))
    (tSeq (tAsg (tOp rAdd (tOp rMul (tOp rMul (tC (.int 91009)) (tVar 3)) (tVar 3)) (tC (.int 17))) (gName 4))
    (tCut (tIfS (tTest (tOp rLt (tVar 3) (tCB (rLenL K) (tCons (tDGet (tVar 0) (tC (.str "cells"))) tNil)))) (tSeq (tAsg (tOp (rIxL K) (tDGet (tVar 0) (tC (.str "cells"))) (tVar 3)) (gName 4))
    (tIfS (tTest (tOp rGe (tCB rAbs (tCons (tVar 4) tNil)) (tOp rPow (tC (.int 10)) (tC (.int 18))))) (tSeq (tAsg (tOp rDivW (tCB rAbs (tCons (tVar 4) tNil)) (tVar 1)) (gSub (tVar 0) (tC (.str "left")) rSetD))
    (tRet (tOp rMod (tCB rAbs (tCons (tVar 4) tNil)) (tVar 1)))) tNext)) (tIfS (tTest (tOp rGt (tCB (rLenL K) (tCons (tDGet (tVar 0) (tC (.str "cells"))) tNil)) (tC (.int 0)))) (tAsg (tOp rAdd (tOp rMod (tOp (rIxL K) (tDGet (tVar 0) (tC (.str "cells"))) (tOp rMod (tVar 3) (tCB (rLenL K) (tCons (tDGet (tVar 0) (tC (.str "cells"))) tNil)))) (tOp rPow (tC (.int 10)) (tC (.int 16)))) (tOp rMul (tC (.int 7919)) (tVar 3))) (gName 4)) tNext))
    (tSeq (tAsg (tOp rMod (tOp rMul (tOp rAdd (tOp rAdd (tOp rMod (tVar 4) (tC (.int 2147483629))) (tOp rMul (tC (.int 50021)) (tVar 3))) (tC (.int 7))) (tC (.int 48271))) (tC (.int 2147483587))) (gName 5))
    (tSeq (tAsg (tOp rMod (tOp rAdd (tOp rAdd (tOp rMul (tVar 5) (tVar 5)) (tOp rMul (tC (.int 69997)) (tVar 5))) (tVar 3)) (tC (.int 2147483563))) (gName 5))
    (tRet (tOp rMod (tOp rDivW (tVar 5) (tC (.int 32))) (tVar 1))))))))))

theorem sx_ldraw {K : PySem.W.Frag} : SX ⟨K, E0, cx0⟩ R_ldraw (fz rI) (t_ldraw K) M_ldraw :=
    (s_seq (s_kill (Kl.fr a_ldraw_2) (s_if (x_test (x_tOp v_gt Cv.id (x_pdl (Late.ow a_ldraw_0) (x_is Cv.id (x_c (r := rKey "left") (a := ()) fun _ => rfl))) (x_is Cv.id (x_c fun _ => rfl)))) (s_seq (s_set a_ldraw_2 (x_tOp v_mod Cv.id (x_pdl (Late.ow a_ldraw_0) (x_is Cv.id (x_c (r := rKey "left") (a := ()) fun _ => rfl))) (x_is Cv.id (x_var a_ldraw_1))))
    (s_seq (s_setI v_setPl nt_Pd ownI_q a_ldraw_0 (x_tOp v_divW Cv.id (x_pdl (Late.ow a_ldraw_0) (x_is Cv.id (x_c (r := rKey "left") (a := ()) fun _ => rfl))) (x_is Cv.id (x_var a_ldraw_1))) (x_c (r := rKey "left") (a := ()) fun _ => rfl))
    (s_ret (x_var a_ldraw_2)))) s_next))
    (s_seq (s_set a_ldraw_3 (x_pda (Late.ow a_ldraw_0) (x_is Cv.id (x_c (r := rKey "at") (a := ()) fun _ => rfl))))
    (s_seq (s_setI v_setPa nt_Pd ownI_q a_ldraw_0 (x_tOp v_add Cv.id (x_var a_ldraw_3) (x_is Cv.id (x_c fun _ => rfl))) (x_c (r := rKey "at") (a := ()) fun _ => rfl))
    (s_seq (s_set a_ldraw_4 (x_tOp v_add Cv.id (x_tOp v_mul Cv.id (x_tOp v_mul Cv.id (x_c fun _ => rfl) (x_is Cv.id (x_var a_ldraw_3))) (x_is Cv.id (x_var a_ldraw_3))) (x_is Cv.id (x_c fun _ => rfl))))
    (s_cutC (s_if (x_test (x_tOp v_lt Cv.id (x_var a_ldraw_3) (x_is Cv.id (x_tCB v_lenS (x_aone (x_is Cv.id (x_pdc (Late.ow a_ldraw_0) (x_is Cv.id (x_c (r := rKey "cells") (a := ()) fun _ => rfl))))))))) (s_seq (s_set a_ldraw_4 (x_tOp v_ixS Cv.id (x_pdc (Late.ow a_ldraw_0) (x_is Cv.id (x_c (r := rKey "cells") (a := ()) fun _ => rfl))) (x_is Cv.id (x_var a_ldraw_3))))
    (s_if (x_test (x_tOp v_ge Cv.id (x_tCB v_abs (x_aone (x_is Cv.id (x_var a_ldraw_4)))) (x_is Cv.id (x_powc (by decide))))) (s_seq (s_setI v_setPl nt_Pd ownI_q a_ldraw_0 (x_tOp v_divW Cv.id (x_tCB v_abs (x_aone (x_is Cv.id (x_var a_ldraw_4)))) (x_is Cv.id (x_var a_ldraw_1))) (x_c (r := rKey "left") (a := ()) fun _ => rfl))
    (s_ret (x_tOp v_mod Cv.id (x_tCB v_abs (x_aone (x_is Cv.id (x_var a_ldraw_4)))) (x_is Cv.id (x_var a_ldraw_1))))) s_next)) (s_if (x_test (x_tOp v_gt Cv.id (x_tCB v_lenS (x_aone (x_is Cv.id (x_pdc (Late.ow a_ldraw_0) (x_is Cv.id (x_c (r := rKey "cells") (a := ()) fun _ => rfl)))))) (x_is Cv.id (x_c fun _ => rfl)))) (s_set a_ldraw_4 (x_tOp v_add Cv.id (x_tOp v_mod Cv.id (x_tOp v_ixS Cv.id (x_pdc (Late.ow a_ldraw_0) (x_is Cv.id (x_c (r := rKey "cells") (a := ()) fun _ => rfl))) (x_is Cv.id (x_tOp v_mod Cv.id (x_var a_ldraw_3) (x_is Cv.id (x_tCB v_lenS (x_aone (x_is Cv.id (x_pdc (Late.ow a_ldraw_0) (x_is Cv.id (x_c (r := rKey "cells") (a := ()) fun _ => rfl)))))))))) (x_is Cv.id (x_powc (by decide)))) (x_is Cv.id (x_tOp v_mul Cv.id (x_c fun _ => rfl) (x_is Cv.id (x_var a_ldraw_3)))))) s_next))
    (s_seq (s_set a_ldraw_5 (x_tOp v_mod Cv.id (x_tOp v_mul Cv.id (x_tOp v_add Cv.id (x_tOp v_add Cv.id (x_tOp v_mod Cv.id (x_var a_ldraw_4) (x_is Cv.id (x_c fun _ => rfl))) (x_is Cv.id (x_tOp v_mul Cv.id (x_c fun _ => rfl) (x_is Cv.id (x_var a_ldraw_3))))) (x_is Cv.id (x_c fun _ => rfl))) (x_is Cv.id (x_c fun _ => rfl))) (x_is Cv.id (x_c fun _ => rfl))))
    (s_seq (s_set a_ldraw_5 (x_tOp v_mod Cv.id (x_tOp v_add Cv.id (x_tOp v_add Cv.id (x_tOp v_mul Cv.id (x_var a_ldraw_5) (x_is Cv.id (x_var a_ldraw_5))) (x_is Cv.id (x_tOp v_mul Cv.id (x_c fun _ => rfl) (x_is Cv.id (x_var a_ldraw_5))))) (x_is Cv.id (x_var a_ldraw_3))) (x_is Cv.id (x_c fun _ => rfl))))
    (s_ret (x_tOp v_mod Cv.id (x_tOp v_divW Cv.id (x_var a_ldraw_5) (x_is Cv.id (x_c fun _ => rfl))) (x_is Cv.id (x_var a_ldraw_1)))))))))))
theorem rd_ldraw {K : PySem.W.Frag} {H : Hp} {vs : List V} {Q : VK} {E : XK} {N : List Str} (h : sp_ldraw K vs H Q E) (hN : N.length = 6 := by rfl) : t_ldraw K { nx := fun _ H' => Q .non H', rt := Q } (start N vs) H := by
  have h : spI K cx0 oPd (aOne (ir rI)) (fz rI) (fun (s : ((List Int) × Int × Int)) (a : Int) => (M_ldraw (some s, some a, none, none, none, none, ())).runI l_ldraw_0 none) vs H Q E := h
  refine d_I (dn := none) (ra := (aOne (ir rI))) (e0 := fun (s : ((List Int) × Int × Int)) (a : Int) => (some s, some a, none, none, none, none, ())) (sx_ldraw) a_ldraw_0 ?_ ?_ h
  · intro G H p ho st ws a k1 k2 k3 s hr
    obtain ⟨v1, rfl, h1⟩ := hr
    rw [show start N [.ref p, v1] = [some (.ref p), some v1, none, none, none, none] by simp [L2.start, hN]]
    exact e_io k1 k2 k3 rfl ⟨rfl, rfl⟩ (e_fr h1 (e_frN (e_frN (e_frN (e_frN e_nil)))))
  · intro b h; cases h

abbrev E_lshape : Type := Option ((List Int) × Int × Int) × Option Int × Option Int × Option Int × Unit
def R_lshape : ERep E_lshape := (eIo 0 oPd (eFr rI (eFr rI (eFr rI eNil))))
abbrev l_lshape_0 : Ln E_lshape ((List Int) × Int × Int) := Ln.z
theorem a_lshape_0 : OwAt R_lshape 0 (ownI 0) oPd l_lshape_0 := OwAt.z
abbrev l_lshape_1 : Ln E_lshape Int := (Ln.s Ln.z)
theorem a_lshape_1 : FrAt R_lshape 1 rI l_lshape_1 := (FrAt.sO FrAt.z)
abbrev l_lshape_2 : Ln E_lshape Int := (Ln.s (Ln.s Ln.z))
theorem a_lshape_2 : FrAt R_lshape 2 rI l_lshape_2 := (FrAt.sO (FrAt.sF FrAt.z))
abbrev l_lshape_3 : Ln E_lshape Int := (Ln.s (Ln.s (Ln.s Ln.z)))
theorem a_lshape_3 : FrAt R_lshape 3 rI l_lshape_3 := (FrAt.sO (FrAt.sF (FrAt.sF FrAt.z)))
def M_lshape : E_lshape → So E_lshape (List (List Int)) :=
    (mSeq (mSet l_lshape_1 (mOp gIx (mUn szOk (mCons (mOp gAdd (mC (1 : Int)) (mCallI l_lshape_0 (fun s p => m_ldraw s p) (mC (40 : Int)))) (mCons (mOp gAdd (mC (1 : Int)) (mCallI l_lshape_0 (fun s p => m_ldraw s p) (mC (6 : Int)))) (mCons (mC (40 : Int)) (mC []))))) (mCallI l_lshape_0 (fun s p => m_ldraw s p) (mC (3 : Int)))))
    (mSeq (mSet l_lshape_2 (mOp gSubI (mCallI l_lshape_0 (fun s p => m_ldraw s p) (mC (9 : Int))) (mC (4 : Int))))
    (mCut (mIfS (mOp gEq (mCallI l_lshape_0 (fun s p => m_ldraw s p) (mC (3 : Int))) (mC (0 : Int))) (mSeq (mSet l_lshape_2 (mOp gAdd (mUn gIntS (mOp gAddS (mC ("1" : Str)) (mOp gMulS (mC ("0" : Str)) (mOp gAdd (mC (1 : Int)) (mCallI l_lshape_0 (fun s p => m_ldraw s p) (mC (29 : Int))))))) (mCallI l_lshape_0 (fun s p => m_ldraw s p) (mC (1000000 : Int)))))
    (mSet l_lshape_2 (mOp gMul (mVar l_lshape_2) (mOp gSubI (mC (1 : Int)) (mOp gMul (mC (2 : Int)) (mCallI l_lshape_0 (fun s p => m_ldraw s p) (mC (2 : Int)))))))) mNext)
    (mSeq (mIfS (mOp gEq (mCallI l_lshape_0 (fun s p => m_ldraw s p) (mC (2 : Int))) (mC (0 : Int))) (mRet (mUn gId (mLc (mRng1 (mVar l_lshape_1)) (pN l_lshape_3) mYes (mUn szOk (mCons (mOp gAdd (mVar l_lshape_2) (mVar l_lshape_3)) (mC []))) (fun e => Ln.put l_lshape_3 none (id e)) (fun e e1 => (fun _ e1 => e1) e (Ln.put l_lshape_3 (Ln.get l_lshape_3 (id e)) e1))))) mNext)
    (mRet (mUn gId (mLc (mRng1 (mVar l_lshape_1)) (pN l_lshape_3) mYes (mUn szOk (mCons (mVar l_lshape_2) (mCons (mOp gAdd (mOp gAdd (mVar l_lshape_2) (mC (1 : Int))) (mVar l_lshape_3)) (mC [])))) (fun e => Ln.put l_lshape_3 none (id e)) (fun e e1 => (fun _ e1 => e1) e (Ln.put l_lshape_3 (Ln.get l_lshape_3 (id e)) e1)))))))))
def m_lshape (x0 : ((List Int) × Int × Int)) : Rs ((List Int) × Int × Int) (List (List Int)) := (M_lshape (some x0, none, none, none, ())).runI l_lshape_0 none
abbrev u_lshape (s : ((List Int) × Int × Int)) (p : Unit) : Rs ((List Int) × Int × Int) (List (List Int)) := m_lshape s 
def sp_lshape (K : PySem.W.Frag) : Sp := spI K cx0 oPd aNil (fz (rz (oT (rz (oT rI))))) u_lshape
theorem len_lshape (K : PySem.W.Frag) : ∀ vs H Q E, sp_lshape K vs H Q E → vs.length = 1 := len_I ALen.nil
def t_lshape (K : PySem.W.Frag) : TS :=
    (tSeq (tAsg (tOp (rIxL K) (tLst (tCons (tOp rAdd (tC (.int 1)) (tCall (sp_ldraw K) [] E0 (tCons (tVar 0) (tCons (tC (.int 40)) tNil)))) (tCons (tOp rAdd (tC (.int 1)) (tCall (sp_ldraw K) [] E0 (tCons (tVar 0) (tCons (tC (.int 6)) tNil)))) (tCons (tC (.int 40)) tNil)))) (tCall (sp_ldraw K) [] E0 (tCons (tVar 0) (tCons (tC (.int 3)) tNil)))) (gName 1))
    (tSeq (tAsg (tOp rSub (tCall (sp_ldraw K) [] E0 (tCons (tVar 0) (tCons (tC (.int 9)) tNil))) (tC (.int 4))) (gName 2))
    (tCut (tIfS (tTest (tOp rEq (tCall (sp_ldraw K) [] E0 (tCons (tVar 0) (tCons (tC (.int 3)) tNil))) (tC (.int 0)))) (tSeq (tAsg (tOp rAdd (tCB rIntS (tCons (tOp rAddS (tC (.str "1")) (tOp rMulS (tC (.str "0")) (tOp rAdd (tC (.int 1)) (tCall (sp_ldraw K) [] E0 (tCons (tVar 0) (tCons (tC (.int 29)) tNil)))))) tNil)) (tCall (sp_ldraw K) [] E0 (tCons (tVar 0) (tCons (tOp rPow (tC (.int 10)) (tC (.int 6))) tNil)))) (gName 2))
    (tAsg (tOp rMul (tVar 2) (tOp rSub (tC (.int 1)) (tOp rMul (tC (.int 2)) (tCall (sp_ldraw K) [] E0 (tCons (tVar 0) (tCons (tC (.int 2)) tNil)))))) (gName 2))) tNext)
    (tSeq (tIfS (tTest (tOp rEq (tCall (sp_ldraw K) [] E0 (tCons (tVar 0) (tCons (tC (.int 2)) tNil))) (tC (.int 0)))) (tRet (tCB (rTupOf K) (tCons (tLc (iRng1 (tCons (tVar 1) tNil)) (gName 3) tYes (tTup (tCons (tOp rAdd (tVar 2) (tVar 3)) tNil)) [3]) tNil))) tNext)
    (tRet (tCB (rTupOf K) (tCons (tLc (iRng1 (tCons (tVar 1) tNil)) (gName 3) tYes (tTup (tCons (tVar 2) (tCons (tOp rAdd (tOp rAdd (tVar 2) (tC (.int 1))) (tVar 3)) tNil))) [3]) tNil)))))))

theorem sx_lshape {K : PySem.W.Frag} : SX ⟨K, E0, cx0⟩ R_lshape (fz (rz (oT (rz (oT rI))))) (t_lshape K) M_lshape :=
    (s_seq (s_set a_lshape_1 (x_tOp v_ixL Cv.ob (x_fz (x_lst (x_lcons (x_tOp v_add Cv.id (x_c fun _ => rfl) (x_is Cv.id (x_callI a_lshape_0 ownI_q (x_pone Cv.id (x_c fun _ => rfl))))) (x_lcons (x_tOp v_add Cv.id (x_c fun _ => rfl) (x_is Cv.id (x_callI a_lshape_0 ownI_q (x_pone Cv.id (x_c fun _ => rfl))))) (x_lcons (x_c fun _ => rfl) x_lnil))))) (x_is Cv.id (x_callI a_lshape_0 ownI_q (x_pone Cv.id (x_c fun _ => rfl))))))
    (s_seq (s_set a_lshape_2 (x_tOp v_sub Cv.id (x_callI a_lshape_0 ownI_q (x_pone Cv.id (x_c fun _ => rfl))) (x_is Cv.id (x_c fun _ => rfl))))
    (s_cutC (s_if (x_test (x_tOp v_eqI Cv.id (x_callI a_lshape_0 ownI_q (x_pone Cv.id (x_c fun _ => rfl))) (x_is Cv.id (x_c fun _ => rfl)))) (s_seq (s_set a_lshape_2 (x_tOp v_add Cv.id (x_tCB v_intS (x_aone (x_is Cv.id (x_tOp v_addS Cv.id (x_c fun _ => rfl) (x_is Cv.id (x_tOp v_mulS Cv.id (x_c fun _ => rfl) (x_is Cv.id (x_tOp v_add Cv.id (x_c fun _ => rfl) (x_is Cv.id (x_callI a_lshape_0 ownI_q (x_pone Cv.id (x_c fun _ => rfl)))))))))))) (x_is Cv.id (x_callI a_lshape_0 ownI_q (x_pone Cv.id (x_powc (by decide)))))))
    (s_set a_lshape_2 (x_tOp v_mul Cv.id (x_var a_lshape_2) (x_is Cv.id (x_tOp v_sub Cv.id (x_c fun _ => rfl) (x_is Cv.id (x_tOp v_mul Cv.id (x_c fun _ => rfl) (x_is Cv.id (x_callI a_lshape_0 ownI_q (x_pone Cv.id (x_c fun _ => rfl))))))))))) s_next)
    (s_seq (s_if (x_test (x_tOp v_eqI Cv.id (x_callI a_lshape_0 ownI_q (x_pone Cv.id (x_c fun _ => rfl))) (x_is Cv.id (x_c fun _ => rfl)))) (s_ret (x_tCB v_tupOfL (x_aone (x_is Cv.ob (x_fz (x_lc (x_rng1 (x_aone (x_is Cv.id (x_var a_lshape_1)))) (Wp.cons a_lshape_3 Wp.nil) (n_name a_lshape_3 (by decide)) x_yes (x_tup (x_lcons (x_tOp v_add Cv.id (x_var a_lshape_2) (x_is Cv.id (x_var a_lshape_3))) x_lnil)))))))) s_next)
    (s_ret (x_tCB v_tupOfL (x_aone (x_is Cv.ob (x_fz (x_lc (x_rng1 (x_aone (x_is Cv.id (x_var a_lshape_1)))) (Wp.cons a_lshape_3 Wp.nil) (n_name a_lshape_3 (by decide)) x_yes (x_tup (x_lcons (x_var a_lshape_2) (x_lcons (x_tOp v_add Cv.id (x_tOp v_add Cv.id (x_var a_lshape_2) (x_is Cv.id (x_c fun _ => rfl))) (x_is Cv.id (x_var a_lshape_3))) x_lnil)))))))))))))
theorem rd_lshape {K : PySem.W.Frag} {H : Hp} {vs : List V} {Q : VK} {E : XK} {N : List Str} (h : sp_lshape K vs H Q E) (hN : N.length = 4 := by rfl) : t_lshape K { nx := fun _ H' => Q .non H', rt := Q } (start N vs) H := by
  have h : spI K cx0 oPd aNil (fz (rz (oT (rz (oT rI))))) (fun (s : ((List Int) × Int × Int)) (a : Unit) => (M_lshape (some s, none, none, none, ())).runI l_lshape_0 none) vs H Q E := h
  refine d_I (dn := none) (ra := aNil) (e0 := fun (s : ((List Int) × Int × Int)) (a : Unit) => (some s, none, none, none, ())) (sx_lshape) a_lshape_0 ?_ ?_ h
  · intro G H p ho st ws a k1 k2 k3 s hr
    obtain rfl := hr
    rw [show start N [.ref p] = [some (.ref p), none, none, none] by simp [L2.start, hN]]
    exact e_io k1 k2 k3 rfl ⟨rfl, rfl⟩ (e_frN (e_frN (e_frN e_nil)))
  · intro b h; cases h

abbrev E_lturned : Type := Option ((List Int) × Int × Int) × Option (List Int) × Option (List Int) × Option Int × Unit
def R_lturned : ERep E_lturned := (eIo 0 oPd (eBo (oL rI) (eOw (oL rI) (eFr rI eNil))))
abbrev l_lturned_0 : Ln E_lturned ((List Int) × Int × Int) := Ln.z
theorem a_lturned_0 : OwAt R_lturned 0 (ownI 0) oPd l_lturned_0 := OwAt.z
abbrev l_lturned_1 : Ln E_lturned (List Int) := (Ln.s Ln.z)
theorem a_lturned_1 : BoAt R_lturned 1 (oL rI) l_lturned_1 := (BoAt.sO BoAt.z)
abbrev l_lturned_2 : Ln E_lturned (List Int) := (Ln.s (Ln.s Ln.z))
theorem a_lturned_2 : OwAt R_lturned 2 ownN (oL rI) l_lturned_2 := (OwAt.sO (OwAt.sB OwAt.z))
abbrev l_lturned_3 : Ln E_lturned Int := (Ln.s (Ln.s (Ln.s Ln.z)))
theorem a_lturned_3 : FrAt R_lturned 3 rI l_lturned_3 := (FrAt.sO (FrAt.sB (FrAt.sO FrAt.z)))
def M_lturned : E_lturned → So E_lturned (List Int) :=
    (mSeq (mSet l_lturned_2 (mUn szOk (mC ([] : List Int))))
    (mCut (mKill (fun e => (Ln.put l_lturned_3 none e)) (mFor (mVar l_lturned_1) (pN l_lturned_3)
    (mKill (fun e => (Ln.put l_lturned_3 none e)) (mDrop (mBM l_lturned_2 gIns (mPair (mCallI l_lturned_0 (fun s p => m_ldraw s p) (mOp gAdd (mUn gLen (mVar l_lturned_2)) (mC (1 : Int)))) (mVar l_lturned_3)))))))
    (mRet (mMove l_lturned_2))))
def m_lturned (x0 : ((List Int) × Int × Int)) (x1 : (List Int)) : Rs ((List Int) × Int × Int) (List Int) := (M_lturned (some x0, some x1, none, none, ())).runI l_lturned_0 none
abbrev u_lturned (s : ((List Int) × Int × Int)) (p : (List Int)) : Rs ((List Int) × Int × Int) (List Int) := m_lturned s p
def sp_lturned (K : PySem.W.Frag) : Sp := spI K cx0 oPd (aOne (rd (oL rI))) (fs (oL rI)) u_lturned
theorem len_lturned (K : PySem.W.Frag) : ∀ vs H Q E, sp_lturned K vs H Q E → vs.length = 2 := len_I ALen.one
def t_lturned (K : PySem.W.Frag) : TS :=
    (tSeq (tAsg (tLst tNil) (gName 2))
    (tSeq (tFor (iList K (tVar 1)) (gName 3)
    (tDrop (tBM K "list" rIns (tVar 2) (tCons (tCall (sp_ldraw K) [] E0 (tCons (tVar 0) (tCons (tOp rAdd (tCB (rLenL K) (tCons (tVar 2) tNil)) (tC (.int 1))) tNil))) (tCons (tVar 3) tNil)))))
    (tRet (tVar 2))))

theorem sx_lturned {K : PySem.W.Frag} : SX ⟨K, E0, cx0⟩ R_lturned (fs (oL rI)) (t_lturned K) M_lturned :=
    (s_seq (s_setO a_lturned_2 (x_lst (x_lnil (r := rI))))
    (s_seqC (s_kill (Kl.fr a_lturned_3) (s_for (vs := [3]) (x_iLB a_lturned_1) (n_name a_lturned_3 (by decide))
    (s_kill (Kl.fr a_lturned_3) (s_drop (x_bm v_ins ty_L nt_L ownN_q a_lturned_2 (x_gcons (x_callI a_lturned_0 ownI_q (x_pone Cv.id (x_tOp v_add Cv.id (x_tCB v_lenL (x_aone (x_varL (Late.ow a_lturned_2)))) (x_is Cv.id (x_c fun _ => rfl))))) (x_gone (x_var a_lturned_3))))))))
    (s_ret (x_move a_lturned_2))))
theorem rd_lturned {K : PySem.W.Frag} {H : Hp} {vs : List V} {Q : VK} {E : XK} {N : List Str} (h : sp_lturned K vs H Q E) (hN : N.length = 4 := by rfl) : t_lturned K { nx := fun _ H' => Q .non H', rt := Q } (start N vs) H := by
  have h : spI K cx0 oPd (aOne (rd (oL rI))) (fs (oL rI)) (fun (s : ((List Int) × Int × Int)) (a : (List Int)) => (M_lturned (some s, some a, none, none, ())).runI l_lturned_0 none) vs H Q E := h
  refine d_I (dn := none) (ra := (aOne (rd (oL rI)))) (e0 := fun (s : ((List Int) × Int × Int)) (a : (List Int)) => (some s, some a, none, none, ())) (sx_lturned) a_lturned_0 ?_ ?_ h
  · intro G H p ho st ws a k1 k2 k3 s hr
    obtain ⟨v1, rfl, h1⟩ := hr
    rw [show start N [.ref p, v1] = [some (.ref p), some v1, none, none] by simp [L2.start, hN]]
    exact e_io k1 k2 k3 rfl ⟨rfl, rfl⟩ (e_bo h1 bo_I (e_owN (e_frN e_nil)))
  · intro b h; cases h

abbrev E_lspoilt : Type := Option ((List Int) × Int × Int) × Option ((List Int) × (List Int)) × Option Int × Option (List Int) × Option (List Int) × Option Th × Option (List Th) × Option Int × Unit
def R_lspoilt : ERep E_lspoilt := (eIo 0 oPd (eFr (rz (oT2 (rz (oT rI)) (rz (oT rI)))) (eFr rI (eFr (rz (oT rI)) (eFr (rz (oT rI)) (eFr rTh (eFr (rz (oL rTh)) (eFr rI eNil))))))))
abbrev l_lspoilt_0 : Ln E_lspoilt ((List Int) × Int × Int) := Ln.z
theorem a_lspoilt_0 : OwAt R_lspoilt 0 (ownI 0) oPd l_lspoilt_0 := OwAt.z
abbrev l_lspoilt_1 : Ln E_lspoilt ((List Int) × (List Int)) := (Ln.s Ln.z)
theorem a_lspoilt_1 : FrAt R_lspoilt 1 (rz (oT2 (rz (oT rI)) (rz (oT rI)))) l_lspoilt_1 := (FrAt.sO FrAt.z)
abbrev l_lspoilt_2 : Ln E_lspoilt Int := (Ln.s (Ln.s Ln.z))
theorem a_lspoilt_2 : FrAt R_lspoilt 2 rI l_lspoilt_2 := (FrAt.sO (FrAt.sF FrAt.z))
abbrev l_lspoilt_3 : Ln E_lspoilt (List Int) := (Ln.s (Ln.s (Ln.s Ln.z)))
theorem a_lspoilt_3 : FrAt R_lspoilt 3 (rz (oT rI)) l_lspoilt_3 := (FrAt.sO (FrAt.sF (FrAt.sF FrAt.z)))
abbrev l_lspoilt_4 : Ln E_lspoilt (List Int) := (Ln.s (Ln.s (Ln.s (Ln.s Ln.z))))
theorem a_lspoilt_4 : FrAt R_lspoilt 4 (rz (oT rI)) l_lspoilt_4 := (FrAt.sO (FrAt.sF (FrAt.sF (FrAt.sF FrAt.z))))
abbrev l_lspoilt_5 : Ln E_lspoilt Th := (Ln.s (Ln.s (Ln.s (Ln.s (Ln.s Ln.z)))))
theorem a_lspoilt_5 : FrAt R_lspoilt 5 rTh l_lspoilt_5 := (FrAt.sO (FrAt.sF (FrAt.sF (FrAt.sF (FrAt.sF FrAt.z)))))
abbrev l_lspoilt_6 : Ln E_lspoilt (List Th) := (Ln.s (Ln.s (Ln.s (Ln.s (Ln.s (Ln.s Ln.z))))))
theorem a_lspoilt_6 : FrAt R_lspoilt 6 (rz (oL rTh)) l_lspoilt_6 := (FrAt.sO (FrAt.sF (FrAt.sF (FrAt.sF (FrAt.sF (FrAt.sF FrAt.z))))))
abbrev l_lspoilt_7 : Ln E_lspoilt Int := (Ln.s (Ln.s (Ln.s (Ln.s (Ln.s (Ln.s (Ln.s Ln.z)))))))
theorem a_lspoilt_7 : FrAt R_lspoilt 7 rI l_lspoilt_7 := (FrAt.sO (FrAt.sF (FrAt.sF (FrAt.sF (FrAt.sF (FrAt.sF (FrAt.sF FrAt.z)))))))
def M_lspoilt : E_lspoilt → So E_lspoilt (List Th) :=
    (mSeq (mAsgN (mVar l_lspoilt_1) (p2 (pN l_lspoilt_3) (pN l_lspoilt_4)))
    (mSeq (mSet l_lspoilt_5 (mOp gIx (mUn szOk (mCons (mUn (toTh Th.int) (mVar l_lspoilt_2)) (mCons (mUn (toTh Th.int) (mUn gNeg (mC (1 : Int)))) (mCons (mUn (toTh Th.int) (mOp gAdd (mVar l_lspoilt_2) (mCallI l_lspoilt_0 (fun s p => m_ldraw s p) (mC (1000000000000000000 : Int))))) (mCons (mUn (toTh Th.bl) (mC true)) (mCons (mUn (toTh Th.bl) (mC false)) (mCons (mUn (toTh (fun _ => Th.non)) (mC ())) (mCons (mUn (toTh Th.str) (mC ("0" : Str))) (mCons (mUn (toTh (fun xs => Th.tup (List.map (fun t => t) xs))) (mUn szOk (mCons (mUn (toTh Th.int) (mC (0 : Int))) (mC [])))) (mCons (mUn (toTh (fun xs => Th.lst (List.map (fun t => t) xs))) (mUn szOk (mCons (mUn (toTh Th.int) (mC (0 : Int))) (mC [])))) (mCons (mUn (toTh Th.str) (mC ("" : Str))) (mC [])))))))))))) (mCallI l_lspoilt_0 (fun s p => m_ldraw s p) (mC (10 : Int)))))
    (mSeq (mSet l_lspoilt_6 (mUn szOk (mCons (mUn (toTh (fun xs => Th.lst (List.map (fun t => t) xs))) (mUn szOk (mCons (mUn (toTh (fun xs => Th.tup (List.map Th.int xs))) (mVar l_lspoilt_3)) (mCons (mUn (toTh (fun xs => Th.tup (List.map Th.int xs))) (mVar l_lspoilt_4)) (mC []))))) (mCons (mUn (toTh (fun xs => Th.tup (List.map (fun t => t) xs))) (mUn szOk (mCons (mUn (toTh (fun xs => Th.tup (List.map Th.int xs))) (mVar l_lspoilt_3)) (mC [])))) (mCons (mUn (toTh (fun xs => Th.tup (List.map (fun t => t) xs))) (mUn szOk (mCons (mUn (toTh (fun xs => Th.tup (List.map Th.int xs))) (mVar l_lspoilt_3)) (mCons (mUn (toTh (fun xs => Th.tup (List.map Th.int xs))) (mVar l_lspoilt_4)) (mCons (mUn (toTh (fun xs => Th.tup (List.map (fun t => t) xs))) (mUn szOk (mC ([] : List Th)))) (mC [])))))) (mCons (mUn (toTh (fun xs => Th.tup (List.map (fun t => t) xs))) (mUn szOk (mCons (mUn (toTh (fun xs => Th.lst (List.map Th.int xs))) (mUn gId (mVar l_lspoilt_3))) (mCons (mUn (toTh (fun xs => Th.tup (List.map Th.int xs))) (mVar l_lspoilt_4)) (mC []))))) (mCons (mUn (toTh (fun xs => Th.tup (List.map (fun t => t) xs))) (mUn szOk (mCons (mUn (toTh (fun xs => Th.tup (List.map Th.int xs))) (mVar l_lspoilt_3)) (mCons (mUn (toTh (fun xs => Th.lst (List.map Th.int xs))) (mUn gId (mVar l_lspoilt_4))) (mC []))))) (mC []))))))))
    (mSeq (mSet l_lspoilt_6 (mOp gCat (mVar l_lspoilt_6) (mUn szOk (mCons (mUn (toTh (fun xs => Th.tup (List.map (fun t => t) xs))) (mUn szOk (mCons (mUn (toTh (fun xs => Th.tup (List.map (fun t => t) xs))) (mOp gCat (mUn (fun xs => some (List.map Th.int xs)) (mVar l_lspoilt_3)) (mUn szOk (mCons (mVar l_lspoilt_5) (mC []))))) (mCons (mUn (toTh (fun xs => Th.tup (List.map Th.int xs))) (mVar l_lspoilt_4)) (mC []))))) (mCons (mUn (toTh (fun xs => Th.tup (List.map (fun t => t) xs))) (mUn szOk (mCons (mUn (toTh (fun xs => Th.tup (List.map (fun t => t) xs))) (mOp gCat (mUn szOk (mCons (mVar l_lspoilt_5) (mC []))) (mUn (fun xs => some (List.map Th.int xs)) (mVar l_lspoilt_3)))) (mCons (mUn (toTh (fun xs => Th.tup (List.map Th.int xs))) (mVar l_lspoilt_4)) (mC []))))) (mCons (mUn (toTh (fun xs => Th.tup (List.map (fun t => t) xs))) (mUn szOk (mCons (mUn (toTh (fun xs => Th.tup (List.map Th.int xs))) (mVar l_lspoilt_3)) (mCons (mUn (toTh (fun xs => Th.tup (List.map (fun t => t) xs))) (mOp gCat (mUn (fun xs => some (List.map Th.int xs)) (mVar l_lspoilt_4)) (mUn szOk (mCons (mVar l_lspoilt_5) (mC []))))) (mC []))))) (mCons (mUn (toTh (fun xs => Th.tup (List.map (fun t => t) xs))) (mUn szOk (mCons (mUn (toTh (fun xs => Th.tup (List.map Th.int xs))) (mVar l_lspoilt_3)) (mCons (mUn (toTh (fun xs => Th.lst (List.map (fun t => t) xs))) (mUn szOk (mCons (mVar l_lspoilt_5) (mC [])))) (mC []))))) (mC []))))))))
    (mSeq (mSet l_lspoilt_6 (mOp gCat (mVar l_lspoilt_6) (mUn szOk (mCons (mUn (toTh (fun xs => Th.tup (List.map (fun t => t) xs))) (mOp gCat (mUn (fun xs => some (List.map Th.int xs)) (mVar l_lspoilt_3)) (mUn (fun xs => some (List.map Th.int xs)) (mVar l_lspoilt_4)))) (mCons (mUn (toTh (fun _ => Th.non)) (mC ())) (mCons (mUn (toTh Th.int) (mC (7 : Int))) (mCons (mUn (toTh Th.str) (mC ("()" : Str))) (mCons (mUn (toTh (fun kbs => Th.dct (List.map (fun p => (p.1, (fun t => t) p.2)) kbs))) (mC ([] : (List ((List Int) × Th))))) (mCons (mUn (toTh (fun kbs => Th.dic (List.map (fun p => (p.1, (fun t => t) p.2)) kbs))) (mOp gDisp1 (mC (0 : Int)) (mUn (toTh (fun xs => Th.tup (List.map Th.int xs))) (mVar l_lspoilt_3)))) (mCons (mUn (toTh (fun xs => Th.tup (List.map (fun t => t) xs))) (mUn szOk (mC ([] : List Th)))) (mCons (mUn (toTh (fun xs => Th.lst (List.map (fun t => t) xs))) (mUn szOk (mC ([] : List Th)))) (mCons (mUn (toTh (fun xs => Th.tup (List.map (fun t => t) xs))) (mUn szOk (mCons (mUn (toTh (fun xs => Th.tup (List.map (fun t => t) xs))) (mUn szOk (mC ([] : List Th)))) (mCons (mUn (toTh (fun kbs => Th.dct (List.map (fun p => (p.1, (fun t => t) p.2)) kbs))) (mC ([] : (List ((List Int) × Th))))) (mC []))))) (mCons (mUn (toTh (fun xs => Th.tup (List.map (fun t => t) xs))) (mUn szOk (mCons (mUn (toTh (fun _ => Th.non)) (mC ())) (mCons (mUn (toTh (fun xs => Th.tup (List.map (fun t => t) xs))) (mUn szOk (mC ([] : List Th)))) (mC []))))) (mCons (mUn (toTh (fun xs => Th.tup (List.map (fun t => t) xs))) (mUn szOk (mCons (mUn (toTh Th.str) (mC ("" : Str))) (mCons (mUn (toTh Th.str) (mC ("" : Str))) (mC []))))) (mC [])))))))))))))))
    (mCut (mKill (fun e => (Ln.put l_lspoilt_7 none e)) (mFor (mOp gCat (mVar l_lspoilt_3) (mVar l_lspoilt_4)) (pN l_lspoilt_7)
    (mKill (fun e => (Ln.put l_lspoilt_7 none e)) (mSet l_lspoilt_6 (mOp gCat (mVar l_lspoilt_6) (mUn szOk (mCons (mUn (toTh (fun xs => Th.tup (List.map (fun t => t) xs))) (mUn szOk (mCons (mUn (toTh (fun xs => Th.tup (List.map (fun t => t) xs))) (mOp gCat (mUn (fun xs => some (List.map Th.int xs)) (mVar l_lspoilt_3)) (mUn szOk (mCons (mUn (toTh Th.int) (mVar l_lspoilt_7)) (mC []))))) (mCons (mUn (toTh (fun xs => Th.tup (List.map Th.int xs))) (mVar l_lspoilt_4)) (mC []))))) (mCons (mUn (toTh (fun xs => Th.tup (List.map (fun t => t) xs))) (mUn szOk (mCons (mUn (toTh (fun xs => Th.tup (List.map Th.int xs))) (mVar l_lspoilt_3)) (mCons (mUn (toTh (fun xs => Th.tup (List.map (fun t => t) xs))) (mOp gCat (mUn szOk (mCons (mUn (toTh Th.int) (mVar l_lspoilt_7)) (mC []))) (mUn (fun xs => some (List.map Th.int xs)) (mVar l_lspoilt_4)))) (mC []))))) (mC [])))))))))
    (mRet (mVar l_lspoilt_6))))))))
def m_lspoilt (x0 : ((List Int) × Int × Int)) (x1 : ((List Int) × (List Int))) (x2 : Int) : Rs ((List Int) × Int × Int) (List Th) := (M_lspoilt (some x0, some x1, some x2, none, none, none, none, none, ())).runI l_lspoilt_0 none
abbrev u_lspoilt (s : ((List Int) × Int × Int)) (p : ((List Int) × (List Int)) × Int) : Rs ((List Int) × Int × Int) (List Th) := m_lspoilt s (p.1) (p.2)
def sp_lspoilt (K : PySem.W.Frag) : Sp := spI K cx0 oPd (aCons (ir (rz (oT2 (rz (oT rI)) (rz (oT rI))))) (aOne (ir rI))) (fz (rz (oL rTh))) u_lspoilt
theorem len_lspoilt (K : PySem.W.Frag) : ∀ vs H Q E, sp_lspoilt K vs H Q E → vs.length = 3 := len_I (ALen.cons ALen.one)
def t_lspoilt (K : PySem.W.Frag) : TS :=
    (tSeq (tAsg (tVar 1) (gTup K 2 (gCons (gName 3) (gCons (gName 4) gNil))))
    (tSeq (tAsg (tOp (rIxL K) (tLst (tCons (tVar 2) (tCons (tUn (rU fun i => .int (-i)) (tC (.int 1))) (tCons (tOp rAdd (tVar 2) (tCall (sp_ldraw K) [] E0 (tCons (tVar 0) (tCons (tOp rPow (tC (.int 10)) (tC (.int 18))) tNil)))) (tCons (tC (.bl true)) (tCons (tC (.bl false)) (tCons (tC .non) (tCons (tC (.str "0")) (tCons (tTup (tCons (tC (.int 0)) tNil)) (tCons (tLst (tCons (tC (.int 0)) tNil)) (tCons (tC (.str "")) tNil))))))))))) (tCall (sp_ldraw K) [] E0 (tCons (tVar 0) (tCons (tC (.int 10)) tNil)))) (gName 5))
    (tSeq (tAsg (tLst (tCons (tLst (tCons (tVar 3) (tCons (tVar 4) tNil))) (tCons (tTup (tCons (tVar 3) tNil)) (tCons (tTup (tCons (tVar 3) (tCons (tVar 4) (tCons (tTup tNil) tNil)))) (tCons (tTup (tCons (tCB (rListOf K) (tCons (tVar 3) tNil)) (tCons (tVar 4) tNil))) (tCons (tTup (tCons (tVar 3) (tCons (tCB (rListOf K) (tCons (tVar 4) tNil)) tNil))) tNil)))))) (gName 6))
    (tSeq (tAsg (tOp rCat (tVar 6) (tLst (tCons (tTup (tCons (tOp (rCatA K) (tVar 3) (tTup (tCons (tVar 5) tNil))) (tCons (tVar 4) tNil))) (tCons (tTup (tCons (tOp (rCatA K) (tTup (tCons (tVar 5) tNil)) (tVar 3)) (tCons (tVar 4) tNil))) (tCons (tTup (tCons (tVar 3) (tCons (tOp (rCatA K) (tVar 4) (tTup (tCons (tVar 5) tNil))) tNil))) (tCons (tTup (tCons (tVar 3) (tCons (tLst (tCons (tVar 5) tNil)) tNil))) tNil)))))) (gName 6))
    (tSeq (tAsg (tOp rCat (tVar 6) (tLst (tCons (tOp (rCatA K) (tVar 3) (tVar 4)) (tCons (tC .non) (tCons (tC (.int 7)) (tCons (tC (.str "()")) (tCons tDNewT (tCons (tDisp [((tC (.int 0)), (tVar 3))]) (tCons (tTup tNil) (tCons (tLst tNil) (tCons (tTup (tCons (tTup tNil) (tCons tDNewT tNil))) (tCons (tTup (tCons (tC .non) (tCons (tTup tNil) tNil))) (tCons (tTup (tCons (tC (.str "")) (tCons (tC (.str "")) tNil))) tNil))))))))))))) (gName 6))
    (tSeq (tFor (iTup K (tOp (rCatA K) (tVar 3) (tVar 4))) (gName 7)
    (tAsg (tOp rCat (tVar 6) (tLst (tCons (tTup (tCons (tOp (rCatA K) (tVar 3) (tTup (tCons (tVar 7) tNil))) (tCons (tVar 4) tNil))) (tCons (tTup (tCons (tVar 3) (tCons (tOp (rCatA K) (tTup (tCons (tVar 7) tNil)) (tVar 4)) tNil))) tNil)))) (gName 6)))
    (tRet (tVar 6))))))))

theorem sx_lspoilt {K : PySem.W.Frag} : SX ⟨K, E0, cx0⟩ R_lspoilt (fz (rz (oL rTh))) (t_lspoilt K) M_lspoilt :=
    (s_seq (s_asgN (vs := [3, 4]) (x_var a_lspoilt_1) (n_tup2 (n_name a_lspoilt_3 (by decide)) (n_name a_lspoilt_4 (by decide))))
    (s_seq (s_set a_lspoilt_5 (x_tOp v_ixL Cv.ob (x_fz (x_lst (x_lcons (x_cast ci_I (x_var a_lspoilt_2)) (x_lcons (x_cast ci_I (x_tUn v_neg (x_is Cv.id (x_c fun _ => rfl)))) (x_lcons (x_cast ci_I (x_tOp v_add Cv.id (x_var a_lspoilt_2) (x_is Cv.id (x_callI a_lspoilt_0 ownI_q (x_pone Cv.id (x_powc (by decide))))))) (x_lcons (x_cast ci_B (x_c fun _ => rfl)) (x_lcons (x_cast ci_B (x_c fun _ => rfl)) (x_lcons (x_cast ci_N (x_c fun _ => rfl)) (x_lcons (x_cast ci_S (x_c fun _ => rfl)) (x_lcons (x_cast (ci_T ci_id) (x_tup (x_lcons (x_cast ci_I (x_c fun _ => rfl)) x_lnil))) (x_lcons (x_cast (ci_L ci_id) (x_fz (x_lst (x_lcons (x_cast ci_I (x_c fun _ => rfl)) x_lnil)))) (x_lcons (x_cast ci_S (x_c fun _ => rfl)) x_lnil)))))))))))) (x_is Cv.id (x_callI a_lspoilt_0 ownI_q (x_pone Cv.id (x_c fun _ => rfl))))))
    (s_seq (s_set a_lspoilt_6 (x_fz (x_lst (x_lcons (x_cast (ci_L ci_id) (x_fz (x_lst (x_lcons (x_cast (ci_T ci_I) (x_var a_lspoilt_3)) (x_lcons (x_cast (ci_T ci_I) (x_var a_lspoilt_4)) x_lnil))))) (x_lcons (x_cast (ci_T ci_id) (x_tup (x_lcons (x_cast (ci_T ci_I) (x_var a_lspoilt_3)) x_lnil))) (x_lcons (x_cast (ci_T ci_id) (x_tup (x_lcons (x_cast (ci_T ci_I) (x_var a_lspoilt_3)) (x_lcons (x_cast (ci_T ci_I) (x_var a_lspoilt_4)) (x_lcons (x_cast (ci_T ci_id) (x_tup (x_lnil (r := rTh)))) x_lnil))))) (x_lcons (x_cast (ci_T ci_id) (x_tup (x_lcons (x_cast (ci_L ci_I) (x_fz (x_tCBF v_lstOfT (x_aone (x_is Cv.ob (x_var a_lspoilt_3)))))) (x_lcons (x_cast (ci_T ci_I) (x_var a_lspoilt_4)) x_lnil)))) (x_lcons (x_cast (ci_T ci_id) (x_tup (x_lcons (x_cast (ci_T ci_I) (x_var a_lspoilt_3)) (x_lcons (x_cast (ci_L ci_I) (x_fz (x_tCBF v_lstOfT (x_aone (x_is Cv.ob (x_var a_lspoilt_4)))))) x_lnil)))) x_lnil))))))))
    (s_seq (s_set a_lspoilt_6 (x_fz (x_tOpF v_cat Cv.ob (x_var a_lspoilt_6) (x_is Cv.ob (x_fz (x_lst (x_lcons (x_cast (ci_T ci_id) (x_tup (x_lcons (x_cast (ci_T ci_id) (x_tOp v_catT Cv.id (x_cast (c_T ci_I) (x_var a_lspoilt_3)) (x_is Cv.id (x_tup (x_lcons (x_var a_lspoilt_5) x_lnil))))) (x_lcons (x_cast (ci_T ci_I) (x_var a_lspoilt_4)) x_lnil)))) (x_lcons (x_cast (ci_T ci_id) (x_tup (x_lcons (x_cast (ci_T ci_id) (x_tOp v_catT Cv.id (x_tup (x_lcons (x_var a_lspoilt_5) x_lnil)) (x_is Cv.id (x_cast (c_T ci_I) (x_var a_lspoilt_3))))) (x_lcons (x_cast (ci_T ci_I) (x_var a_lspoilt_4)) x_lnil)))) (x_lcons (x_cast (ci_T ci_id) (x_tup (x_lcons (x_cast (ci_T ci_I) (x_var a_lspoilt_3)) (x_lcons (x_cast (ci_T ci_id) (x_tOp v_catT Cv.id (x_cast (c_T ci_I) (x_var a_lspoilt_4)) (x_is Cv.id (x_tup (x_lcons (x_var a_lspoilt_5) x_lnil))))) x_lnil)))) (x_lcons (x_cast (ci_T ci_id) (x_tup (x_lcons (x_cast (ci_T ci_I) (x_var a_lspoilt_3)) (x_lcons (x_cast (ci_L ci_id) (x_fz (x_lst (x_lcons (x_var a_lspoilt_5) x_lnil)))) x_lnil)))) x_lnil))))))))))
    (s_seq (s_set a_lspoilt_6 (x_fz (x_tOpF v_cat Cv.ob (x_var a_lspoilt_6) (x_is Cv.ob (x_fz (x_lst (x_lcons (x_cast (ci_T ci_id) (x_tOp v_catT Cv.id (x_cast (c_T ci_I) (x_var a_lspoilt_3)) (x_is Cv.id (x_cast (c_T ci_I) (x_var a_lspoilt_4))))) (x_lcons (x_cast ci_N (x_c fun _ => rfl)) (x_lcons (x_cast ci_I (x_c fun _ => rfl)) (x_lcons (x_cast ci_S (x_c fun _ => rfl)) (x_lcons (x_cast (ci_D ci_id) (x_fz (x_dnew (r := rTh)))) (x_lcons (x_cast (ci_DI ci_id) (x_fz (x_disp1 (pu_c fun _ _ => rfl) (pu_cast (ci_T ci_I) (pu_var a_lspoilt_3))))) (x_lcons (x_cast (ci_T ci_id) (x_tup (x_lnil (r := rTh)))) (x_lcons (x_cast (ci_L ci_id) (x_fz (x_lst (x_lnil (r := rTh))))) (x_lcons (x_cast (ci_T ci_id) (x_tup (x_lcons (x_cast (ci_T ci_id) (x_tup (x_lnil (r := rTh)))) (x_lcons (x_cast (ci_D ci_id) (x_fz (x_dnew (r := rTh)))) x_lnil)))) (x_lcons (x_cast (ci_T ci_id) (x_tup (x_lcons (x_cast ci_N (x_c fun _ => rfl)) (x_lcons (x_cast (ci_T ci_id) (x_tup (x_lnil (r := rTh)))) x_lnil)))) (x_lcons (x_cast (ci_T ci_id) (x_tup (x_lcons (x_cast ci_S (x_c fun _ => rfl)) (x_lcons (x_cast ci_S (x_c fun _ => rfl)) x_lnil)))) x_lnil)))))))))))))))))
    (s_seqC (s_kill (Kl.fr a_lspoilt_7) (s_for (vs := [7]) (x_iT (x_tOp v_catT Cv.id (x_var a_lspoilt_3) (x_is Cv.id (x_var a_lspoilt_4)))) (n_name a_lspoilt_7 (by decide))
    (s_kill (Kl.fr a_lspoilt_7) (s_set a_lspoilt_6 (x_fz (x_tOpF v_cat Cv.ob (x_var a_lspoilt_6) (x_is Cv.ob (x_fz (x_lst (x_lcons (x_cast (ci_T ci_id) (x_tup (x_lcons (x_cast (ci_T ci_id) (x_tOp v_catT Cv.id (x_cast (c_T ci_I) (x_var a_lspoilt_3)) (x_is Cv.id (x_tup (x_lcons (x_cast ci_I (x_var a_lspoilt_7)) x_lnil))))) (x_lcons (x_cast (ci_T ci_I) (x_var a_lspoilt_4)) x_lnil)))) (x_lcons (x_cast (ci_T ci_id) (x_tup (x_lcons (x_cast (ci_T ci_I) (x_var a_lspoilt_3)) (x_lcons (x_cast (ci_T ci_id) (x_tOp v_catT Cv.id (x_tup (x_lcons (x_cast ci_I (x_var a_lspoilt_7)) x_lnil)) (x_is Cv.id (x_cast (c_T ci_I) (x_var a_lspoilt_4))))) x_lnil)))) x_lnil)))))))))))
    (s_ret (x_var a_lspoilt_6))))))))
theorem rd_lspoilt {K : PySem.W.Frag} {H : Hp} {vs : List V} {Q : VK} {E : XK} {N : List Str} (h : sp_lspoilt K vs H Q E) (hN : N.length = 8 := by rfl) : t_lspoilt K { nx := fun _ H' => Q .non H', rt := Q } (start N vs) H := by
  have h : spI K cx0 oPd (aCons (ir (rz (oT2 (rz (oT rI)) (rz (oT rI))))) (aOne (ir rI))) (fz (rz (oL rTh))) (fun (s : ((List Int) × Int × Int)) (a : ((List Int) × (List Int)) × Int) => (M_lspoilt (some s, some a.1, some a.2, none, none, none, none, none, ())).runI l_lspoilt_0 none) vs H Q E := h
  refine d_I (dn := none) (ra := (aCons (ir (rz (oT2 (rz (oT rI)) (rz (oT rI))))) (aOne (ir rI)))) (e0 := fun (s : ((List Int) × Int × Int)) (a : ((List Int) × (List Int)) × Int) => (some s, some a.1, some a.2, none, none, none, none, none, ())) (sx_lspoilt) a_lspoilt_0 ?_ ?_ h
  · intro G H p ho st ws a k1 k2 k3 s hr
    obtain ⟨v1, _, rfl, h1, ⟨v2, rfl, h2⟩⟩ := hr
    rw [show start N [.ref p, v1, v2] = [some (.ref p), some v1, some v2, none, none, none, none, none] by simp [L2.start, hN]]
    exact e_io k1 k2 k3 rfl ⟨rfl, rfl⟩ (e_fr h1 (e_fr h2 (e_frN (e_frN (e_frN (e_frN (e_frN e_nil)))))))
  · intro b h; cases h

abbrev E_lmay : Type := Option Int × Option ((List Int) × (List Int)) × Option (List Int) × Option (List Int) × Option (List Int) × Option Int × Option Int × Unit
def R_lmay : ERep E_lmay := (eFr rI (eFr (rz (oT2 (rz (oT rI)) (rz (oT rI)))) (eBo (oL rI) (eFr (rz (oT rI)) (eFr (rz (oT rI)) (eFr rI (eFr rI eNil)))))))
abbrev l_lmay_0 : Ln E_lmay Int := Ln.z
theorem a_lmay_0 : FrAt R_lmay 0 rI l_lmay_0 := FrAt.z
abbrev l_lmay_1 : Ln E_lmay ((List Int) × (List Int)) := (Ln.s Ln.z)
theorem a_lmay_1 : FrAt R_lmay 1 (rz (oT2 (rz (oT rI)) (rz (oT rI)))) l_lmay_1 := (FrAt.sF FrAt.z)
abbrev l_lmay_2 : Ln E_lmay (List Int) := (Ln.s (Ln.s Ln.z))
theorem a_lmay_2 : BoAt R_lmay 2 (oL rI) l_lmay_2 := (BoAt.sF (BoAt.sF BoAt.z))
abbrev l_lmay_3 : Ln E_lmay (List Int) := (Ln.s (Ln.s (Ln.s Ln.z)))
theorem a_lmay_3 : FrAt R_lmay 3 (rz (oT rI)) l_lmay_3 := (FrAt.sF (FrAt.sF (FrAt.sB FrAt.z)))
abbrev l_lmay_4 : Ln E_lmay (List Int) := (Ln.s (Ln.s (Ln.s (Ln.s Ln.z))))
theorem a_lmay_4 : FrAt R_lmay 4 (rz (oT rI)) l_lmay_4 := (FrAt.sF (FrAt.sF (FrAt.sB (FrAt.sF FrAt.z))))
abbrev l_lmay_5 : Ln E_lmay Int := (Ln.s (Ln.s (Ln.s (Ln.s (Ln.s Ln.z)))))
theorem a_lmay_5 : FrAt R_lmay 5 rI l_lmay_5 := (FrAt.sF (FrAt.sF (FrAt.sB (FrAt.sF (FrAt.sF FrAt.z)))))
abbrev l_lmay_6 : Ln E_lmay Int := (Ln.s (Ln.s (Ln.s (Ln.s (Ln.s (Ln.s Ln.z))))))
theorem a_lmay_6 : FrAt R_lmay 6 rI l_lmay_6 := (FrAt.sF (FrAt.sF (FrAt.sB (FrAt.sF (FrAt.sF (FrAt.sF FrAt.z))))))
def M_lmay : E_lmay → So E_lmay (List Int) :=
    (mSeq (mAsgN (mVar l_lmay_1) (p2 (pN l_lmay_3) (pN l_lmay_4)))
    (mSeq (mSet l_lmay_5 (mUn gLen (mVar l_lmay_2)))
    (mSeq (mIfS (mOp gEq (mVar l_lmay_5) (mVar l_lmay_0)) (mRet (mUn szOk (mC ([] : List Int)))) mNext)
    (mSeq (mIfS (mOp gLt (mVar l_lmay_5) (mUn gLen (mVar l_lmay_3))) (mRet (mUn szOk (mCons (mOp gIx (mVar l_lmay_3) (mVar l_lmay_5)) (mC [])))) mNext)
    (mSeq (mIfS (mOp gGe (mVar l_lmay_5) (mOp gSubI (mVar l_lmay_0) (mUn gLen (mVar l_lmay_4)))) (mRet (mUn szOk (mCons (mOp gIx (mVar l_lmay_4) (mOp gAdd (mOp gSubI (mVar l_lmay_5) (mVar l_lmay_0)) (mUn gLen (mVar l_lmay_4)))) (mC [])))) mNext)
    (mRet (mLc (mRng1 (mVar l_lmay_0)) (pN l_lmay_6) (mAnd (mOp gNin (mVar l_lmay_6) (mVar l_lmay_2)) (mOp gNin (mVar l_lmay_6) (mVar l_lmay_4))) (mVar l_lmay_6) (fun e => Ln.put l_lmay_6 none (id e)) (fun e e1 => (fun _ e1 => e1) e (Ln.put l_lmay_6 (Ln.get l_lmay_6 (id e)) e1)))))))))
def m_lmay (x0 : Int) (x1 : ((List Int) × (List Int))) (x2 : (List Int)) : Rs Unit (List Int) := (M_lmay (some x0, some x1, some x2, none, none, none, none, ())).run none
abbrev u_lmay (p : Int × ((List Int) × (List Int)) × (List Int)) : Rs Unit (List Int) := m_lmay (p.1) (p.2.1) (p.2.2)
def sp_lmay (K : PySem.W.Frag) : Sp := spD K cx0 (aCons (ir rI) (aCons (ir (rz (oT2 (rz (oT rI)) (rz (oT rI))))) (aOne (rd (oL rI))))) (fs (oL rI)) u_lmay
theorem len_lmay (K : PySem.W.Frag) : ∀ vs H Q E, sp_lmay K vs H Q E → vs.length = 3 := len_D (ALen.cons (ALen.cons ALen.one))
def t_lmay (K : PySem.W.Frag) : TS :=
    (tSeq (tAsg (tVar 1) (gTup K 2 (gCons (gName 3) (gCons (gName 4) gNil))))
    (tSeq (tAsg (tCB (rLenL K) (tCons (tVar 2) tNil)) (gName 5))
    (tSeq (tIfS (tTest (tOp rEq (tVar 5) (tVar 0))) (tRet (tLst tNil)) tNext)
    (tSeq (tIfS (tTest (tOp rLt (tVar 5) (tCB (rLenL K) (tCons (tVar 3) tNil)))) (tRet (tLst (tCons (tOp (rIxT K) (tVar 3) (tVar 5)) tNil))) tNext)
    (tSeq (tIfS (tTest (tOp rGe (tVar 5) (tOp rSub (tVar 0) (tCB (rLenL K) (tCons (tVar 4) tNil))))) (tRet (tLst (tCons (tOp (rIxT K) (tVar 4) (tOp rAdd (tOp rSub (tVar 5) (tVar 0)) (tCB (rLenL K) (tCons (tVar 4) tNil)))) tNil))) tNext)
    (tRet (tLc (iRng1 (tCons (tVar 0) tNil)) (gName 6) (tAnd (tTest (tOp (rIn K true) (tVar 6) (tVar 2))) (tTest (tOp (rIn K true) (tVar 6) (tVar 4)))) (tVar 6) [6])))))))

theorem sx_lmay {K : PySem.W.Frag} : SX ⟨K, E0, cx0⟩ R_lmay (fs (oL rI)) (t_lmay K) M_lmay :=
    (s_seq (s_asgN (vs := [3, 4]) (x_var a_lmay_1) (n_tup2 (n_name a_lmay_3 (by decide)) (n_name a_lmay_4 (by decide))))
    (s_seq (s_set a_lmay_5 (x_tCB v_lenL (x_aone (x_varL (Late.bo a_lmay_2)))))
    (s_seq (s_if (x_test (x_tOp v_eqI Cv.id (x_var a_lmay_5) (x_is Cv.id (x_var a_lmay_0)))) (s_ret (x_lst (x_lnil (r := rI)))) s_next)
    (s_seq (s_if (x_test (x_tOp v_lt Cv.id (x_var a_lmay_5) (x_is Cv.id (x_tCB v_lenT (x_aone (x_is Cv.ob (x_var a_lmay_3))))))) (s_ret (x_lst (x_lcons (x_tOp v_ixT Cv.ob (x_var a_lmay_3) (x_is Cv.id (x_var a_lmay_5))) x_lnil))) s_next)
    (s_seq (s_if (x_test (x_tOp v_ge Cv.id (x_var a_lmay_5) (x_is Cv.id (x_tOp v_sub Cv.id (x_var a_lmay_0) (x_is Cv.id (x_tCB v_lenT (x_aone (x_is Cv.ob (x_var a_lmay_4))))))))) (s_ret (x_lst (x_lcons (x_tOp v_ixT Cv.ob (x_var a_lmay_4) (x_is Cv.id (x_tOp v_add Cv.id (x_tOp v_sub Cv.id (x_var a_lmay_5) (x_is Cv.id (x_var a_lmay_0))) (x_is Cv.id (x_tCB v_lenT (x_aone (x_is Cv.ob (x_var a_lmay_4)))))))) x_lnil))) s_next)
    (s_ret (x_lc (x_rng1 (x_aone (x_is Cv.id (x_var a_lmay_0)))) (Wp.cons a_lmay_6 Wp.nil) (n_name a_lmay_6 (by decide)) (x_and (x_test (x_tOp v_ninLI Cv.id (x_var a_lmay_6) (x_varL (Late.bo a_lmay_2)))) (x_test (x_tOp v_ninTI Cv.id (x_var a_lmay_6) (x_is Cv.ob (x_var a_lmay_4))))) (x_var a_lmay_6))))))))
theorem rd_lmay {K : PySem.W.Frag} {H : Hp} {vs : List V} {Q : VK} {E : XK} {N : List Str} (h : sp_lmay K vs H Q E) (hN : N.length = 7 := by rfl) : t_lmay K { nx := fun _ H' => Q .non H', rt := Q } (start N vs) H := by
  have h : spD K cx0 (aCons (ir rI) (aCons (ir (rz (oT2 (rz (oT rI)) (rz (oT rI))))) (aOne (rd (oL rI))))) (fs (oL rI)) (fun (a : Int × ((List Int) × (List Int)) × (List Int)) => (M_lmay (some a.1, some a.2.1, some a.2.2, none, none, none, none, ())).run none) vs H Q E := h
  refine d_D (dn := none) (ra := (aCons (ir rI) (aCons (ir (rz (oT2 (rz (oT rI)) (rz (oT rI))))) (aOne (rd (oL rI)))))) (e0 := fun (a : Int × ((List Int) × (List Int)) × (List Int)) => (some a.1, some a.2.1, some a.2.2, none, none, none, none, ())) (sx_lmay) ?_ ?_ h
  · intro G H vs a s hr
    obtain ⟨v0, _, rfl, h0, ⟨v1, _, rfl, h1, ⟨v2, rfl, h2⟩⟩⟩ := hr
    rw [show start N [v0, v1, v2] = [some v0, some v1, some v2, none, none, none, none] by simp [L2.start, hN]]
    exact (e_fr h0 (e_fr h1 (e_bo h2 bo_D (e_frN (e_frN (e_frN (e_frN e_nil)))))))
  · intro b h; cases h

abbrev E_lsame : Type := Option (List Int) × Option (List Int) × Option Int × Unit
def R_lsame : ERep E_lsame := (eBo (oL rI) (eBo (oL rI) (eFr rI eNil)))
abbrev l_lsame_0 : Ln E_lsame (List Int) := Ln.z
theorem a_lsame_0 : BoAt R_lsame 0 (oL rI) l_lsame_0 := BoAt.z
abbrev l_lsame_1 : Ln E_lsame (List Int) := (Ln.s Ln.z)
theorem a_lsame_1 : BoAt R_lsame 1 (oL rI) l_lsame_1 := (BoAt.sB BoAt.z)
abbrev l_lsame_2 : Ln E_lsame Int := (Ln.s (Ln.s Ln.z))
theorem a_lsame_2 : FrAt R_lsame 2 rI l_lsame_2 := (FrAt.sB (FrAt.sB FrAt.z))
def M_lsame : E_lsame → So E_lsame Bool :=
    (mSeq (mIfB (mOr (mNot (mUn (gIsi true) (mPairL l_lsame_0 (mC ())))) (mOpL gNe l_lsame_0 (mVar l_lsame_1))) (mRet (mC false)) mNext)
    (mRet (mUn gAll (mLc (mVar l_lsame_0) (pN l_lsame_2) mYes (mAnd (mUn (gIsi true) (mPair (mVar l_lsame_2) (mC ()))) (mNot (mUn (gIsi false) (mPair (mVar l_lsame_2) (mC ()))))) (fun e => Ln.put l_lsame_2 none (id e)) (fun e e1 => (fun _ e1 => e1) e (Ln.put l_lsame_2 (Ln.get l_lsame_2 (id e)) e1))))))
def m_lsame (x0 : (List Int)) (x1 : (List Int)) : Rs Unit Bool := (M_lsame (some x0, some x1, none, ())).run none
abbrev u_lsame (p : (List Int) × (List Int)) : Rs Unit Bool := m_lsame (p.1) (p.2)
def sp_lsame (K : PySem.W.Frag) : Sp := spD K cx0 (aCons (rd (oL rI)) (aOne (rd (oL rI)))) (fz rB) u_lsame
theorem len_lsame (K : PySem.W.Frag) : ∀ vs H Q E, sp_lsame K vs H Q E → vs.length = 2 := len_D (ALen.cons ALen.one)
def t_lsame (K : PySem.W.Frag) : TS :=
    (tSeq (tIfS (tOr (tNot (tB (tCB (rIsi K) (tCons (tVar 0) (tCons (tC (.ty "list")) tNil))))) (tTest (tOp (rNeD K) (tVar 0) (tVar 1)))) (tRet (tC (.bl false))) tNext)
    (tRet (tCB (rAll K) (tCons (tLc (iList K (tVar 0)) (gName 2) tYes (tAndV (tCB (rIsi K) (tCons (tVar 2) (tCons (tC (.ty "int")) tNil))) (tNotV (tCB (rIsi K) (tCons (tVar 2) (tCons (tC (.ty "bool")) tNil))))) [2]) tNil))))

theorem sx_lsame {K : PySem.W.Frag} : SX ⟨K, E0, cx0⟩ R_lsame (fz rB) (t_lsame K) M_lsame :=
    (s_seq (s_ifB (x_or (x_not (x_tB (x_tCB (v_isi kd_Lr (fun _ => kit_ty (by decide +kernel))) (x_aconsL (Late.bo a_lsame_0) (x_aone (x_is Cv.id (x_c (r := rTy "list") (a := ()) fun _ => rfl))))))) (x_test (x_tOpL (v_neD (da_Lr da_I) (da_Lr da_I) (eq_L eq_I) (by decide)) (Late.bo a_lsame_0) (x_varL (Late.bo a_lsame_1))))) (s_ret (x_c fun _ => rfl)) s_next)
    (s_ret (x_tCB v_all (x_aone (x_is Cv.ob (x_fz (x_lc (x_iLB a_lsame_0) (Wp.cons a_lsame_2 Wp.nil) (n_name a_lsame_2 (by decide)) x_yes (x_andV (x_tCB (v_isi kd_I (fun _ => kit_ty (by decide +kernel))) (x_acons Cv.id (x_var a_lsame_2) (x_aone (x_is Cv.id (x_c (r := rTy "int") (a := ()) fun _ => rfl))))) (x_notV (x_tCB (v_isi kd_I (fun _ => kit_ty (by decide +kernel))) (x_acons Cv.id (x_var a_lsame_2) (x_aone (x_is Cv.id (x_c (r := rTy "bool") (a := ()) fun _ => rfl))))))))))))))
theorem rd_lsame {K : PySem.W.Frag} {H : Hp} {vs : List V} {Q : VK} {E : XK} {N : List Str} (h : sp_lsame K vs H Q E) (hN : N.length = 3 := by rfl) : t_lsame K { nx := fun _ H' => Q .non H', rt := Q } (start N vs) H := by
  have h : spD K cx0 (aCons (rd (oL rI)) (aOne (rd (oL rI)))) (fz rB) (fun (a : (List Int) × (List Int)) => (M_lsame (some a.1, some a.2, none, ())).run none) vs H Q E := h
  refine d_D (dn := none) (ra := (aCons (rd (oL rI)) (aOne (rd (oL rI))))) (e0 := fun (a : (List Int) × (List Int)) => (some a.1, some a.2, none, ())) (sx_lsame) ?_ ?_ h
  · intro G H vs a s hr
    obtain ⟨v0, _, rfl, h0, ⟨v1, rfl, h1⟩⟩ := hr
    rw [show start N [v0, v1] = [some v0, some v1, none] by simp [L2.start, hN]]
    exact (e_bo h0 bo_D (e_bo h1 bo_D (e_frN e_nil)))
  · intro b h; cases h

abbrev E_lis : Type := Option Bool × Option Bool × Unit
def R_lis : ERep E_lis := (eFr rB (eFr rB eNil))
abbrev l_lis_0 : Ln E_lis Bool := Ln.z
theorem a_lis_0 : FrAt R_lis 0 rB l_lis_0 := FrAt.z
abbrev l_lis_1 : Ln E_lis Bool := (Ln.s Ln.z)
theorem a_lis_1 : FrAt R_lis 1 rB l_lis_1 := (FrAt.sF FrAt.z)
def M_lis : E_lis → So E_lis Bool :=
    (mRet (mAnd (mUn (gIsi true) (mPair (mVar l_lis_0) (mC ()))) (mOp gEq (mVar l_lis_0) (mVar l_lis_1))))
def m_lis (x0 : Bool) (x1 : Bool) : Rs Unit Bool := (M_lis (some x0, some x1, ())).run none
abbrev u_lis (p : Bool × Bool) : Rs Unit Bool := m_lis (p.1) (p.2)
def sp_lis (K : PySem.W.Frag) : Sp := spD K cx0 (aCons (ir rB) (aOne (ir rB))) (fz rB) u_lis
theorem len_lis (K : PySem.W.Frag) : ∀ vs H Q E, sp_lis K vs H Q E → vs.length = 2 := len_D (ALen.cons ALen.one)
def t_lis (K : PySem.W.Frag) : TS :=
    (tRet (tAndV (tCB (rIsi K) (tCons (tVar 0) (tCons (tC (.ty "bool")) tNil))) (tOp rEq (tVar 0) (tVar 1))))

theorem sx_lis {K : PySem.W.Frag} : SX ⟨K, E0, cx0⟩ R_lis (fz rB) (t_lis K) M_lis :=
    (s_ret (x_andV (x_tCB (v_isi kd_B (fun _ => kit_ty (by decide +kernel))) (x_acons Cv.id (x_var a_lis_0) (x_aone (x_is Cv.id (x_c (r := rTy "bool") (a := ()) fun _ => rfl))))) (x_tOp v_eqB Cv.id (x_var a_lis_0) (x_is Cv.id (x_var a_lis_1)))))
theorem rd_lis {K : PySem.W.Frag} {H : Hp} {vs : List V} {Q : VK} {E : XK} {N : List Str} (h : sp_lis K vs H Q E) (hN : N.length = 2 := by rfl) : t_lis K { nx := fun _ H' => Q .non H', rt := Q } (start N vs) H := by
  have h : spD K cx0 (aCons (ir rB) (aOne (ir rB))) (fz rB) (fun (a : Bool × Bool) => (M_lis (some a.1, some a.2, ())).run none) vs H Q E := h
  refine d_D (dn := none) (ra := (aCons (ir rB) (aOne (ir rB)))) (e0 := fun (a : Bool × Bool) => (some a.1, some a.2, ())) (sx_lis) ?_ ?_ h
  · intro G H vs a s hr
    obtain ⟨v0, _, rfl, h0, ⟨v1, rfl, h1⟩⟩ := hr
    rw [show start N [v0, v1] = [some v0, some v1] by simp [L2.start, hN]]
    exact (e_fr h0 (e_fr h1 e_nil))
  · intro b h; cases h

abbrev E_lallowed_right : Type := Option (List (List Int)) × Option ((List Int) × (List Int)) × Option (List Int) × Option Int × Option (List Int) × Option (List Int) × Option (List Int) × Option (List Int) × Unit
def R_lallowed_right : ERep E_lallowed_right := (eFr (rz (oT (rz (oT rI)))) (eFr (rz (oT2 (rz (oT rI)) (rz (oT rI)))) (eBo (oL rI) (eFr rI (eFr (rz (oL rI)) (eFr (rz (oL rI)) (eOw (oL rI) (eFr (rz (oL rI)) eNil))))))))
abbrev l_lallowed_right_0 : Ln E_lallowed_right (List (List Int)) := Ln.z
theorem a_lallowed_right_0 : FrAt R_lallowed_right 0 (rz (oT (rz (oT rI)))) l_lallowed_right_0 := FrAt.z
abbrev l_lallowed_right_1 : Ln E_lallowed_right ((List Int) × (List Int)) := (Ln.s Ln.z)
theorem a_lallowed_right_1 : FrAt R_lallowed_right 1 (rz (oT2 (rz (oT rI)) (rz (oT rI)))) l_lallowed_right_1 := (FrAt.sF FrAt.z)
abbrev l_lallowed_right_2 : Ln E_lallowed_right (List Int) := (Ln.s (Ln.s Ln.z))
theorem a_lallowed_right_2 : BoAt R_lallowed_right 2 (oL rI) l_lallowed_right_2 := (BoAt.sF (BoAt.sF BoAt.z))
abbrev l_lallowed_right_3 : Ln E_lallowed_right Int := (Ln.s (Ln.s (Ln.s Ln.z)))
theorem a_lallowed_right_3 : FrAt R_lallowed_right 3 rI l_lallowed_right_3 := (FrAt.sF (FrAt.sF (FrAt.sB FrAt.z)))
abbrev l_lallowed_right_4 : Ln E_lallowed_right (List Int) := (Ln.s (Ln.s (Ln.s (Ln.s Ln.z))))
theorem a_lallowed_right_4 : FrAt R_lallowed_right 4 (rz (oL rI)) l_lallowed_right_4 := (FrAt.sF (FrAt.sF (FrAt.sB (FrAt.sF FrAt.z))))
abbrev l_lallowed_right_5 : Ln E_lallowed_right (List Int) := (Ln.s (Ln.s (Ln.s (Ln.s (Ln.s Ln.z)))))
theorem a_lallowed_right_5 : FrAt R_lallowed_right 5 (rz (oL rI)) l_lallowed_right_5 := (FrAt.sF (FrAt.sF (FrAt.sB (FrAt.sF (FrAt.sF FrAt.z)))))
abbrev l_lallowed_right_6 : Ln E_lallowed_right (List Int) := (Ln.s (Ln.s (Ln.s (Ln.s (Ln.s (Ln.s Ln.z))))))
theorem a_lallowed_right_6 : OwAt R_lallowed_right 6 ownN (oL rI) l_lallowed_right_6 := (OwAt.sF (OwAt.sF (OwAt.sB (OwAt.sF (OwAt.sF (OwAt.sF OwAt.z))))))
abbrev l_lallowed_right_7 : Ln E_lallowed_right (List Int) := (Ln.s (Ln.s (Ln.s (Ln.s (Ln.s (Ln.s (Ln.s Ln.z)))))))
theorem a_lallowed_right_7 : FrAt R_lallowed_right 7 (rz (oL rI)) l_lallowed_right_7 := (FrAt.sF (FrAt.sF (FrAt.sB (FrAt.sF (FrAt.sF (FrAt.sF (FrAt.sO FrAt.z)))))))
def M_lallowed_right : E_lallowed_right → So E_lallowed_right Bool :=
    (mCut (mKill (fun e => (Ln.put l_lallowed_right_3 none (Ln.put l_lallowed_right_4 none (Ln.put l_lallowed_right_5 none (Ln.put l_lallowed_right_6 none (Ln.put l_lallowed_right_7 none e)))))) (mFor (mRng1 (mOp gAdd (mUn gLen (mVar l_lallowed_right_2)) (mC (1 : Int)))) (pN l_lallowed_right_3)
    (mKill (fun e => (Ln.put l_lallowed_right_3 none (Ln.put l_lallowed_right_4 none (Ln.put l_lallowed_right_5 none (Ln.put l_lallowed_right_6 none (Ln.put l_lallowed_right_7 none e)))))) (mSeq (mSet l_lallowed_right_4 (mSlL gCut l_lallowed_right_2 (mC none) (mPart (mVar l_lallowed_right_3))))
    (mSeq (mSet l_lallowed_right_5 (mUn gId (mVar l_lallowed_right_4)))
    (mSeq (mSet l_lallowed_right_6 (mCall (fun p => m_allowed (p.1) (p.2.1) (p.2.2)) (mPair (mVar l_lallowed_right_0) (mPair (mVar l_lallowed_right_1) (mVar l_lallowed_right_5)))))
    (mSeq (mSet l_lallowed_right_7 (mCall (fun p => m_lmay (p.1) (p.2.1) (p.2.2)) (mPair (mUn gLen (mVar l_lallowed_right_0)) (mPair (mVar l_lallowed_right_1) (mVar l_lallowed_right_4)))))
    (mSeq (mIfB (mOr (mNot (mCall (fun p => m_lsame (p.1) (p.2)) (mPairL l_lallowed_right_6 (mVar l_lallowed_right_7)))) (mOp gNe (mVar l_lallowed_right_5) (mVar l_lallowed_right_4))) (mRet (mC false)) mNext)
    (mSeq (mDrop (mBM l_lallowed_right_6 gApp (mC (0 : Int))))
    (mSeq (mDrop (mBM0 l_lallowed_right_6 gRevM))
    (mIfS (mNot (mCall (fun p => m_lsame (p.1) (p.2)) (mPair (mCall (fun p => m_allowed (p.1) (p.2.1) (p.2.2)) (mPair (mVar l_lallowed_right_0) (mPair (mVar l_lallowed_right_1) (mVar l_lallowed_right_5)))) (mVar l_lallowed_right_7)))) (mRet (mC false)) mNext)))))))))))
    (mRet (mC true)))
def m_lallowed_right (x0 : (List (List Int))) (x1 : ((List Int) × (List Int))) (x2 : (List Int)) : Rs Unit Bool := (M_lallowed_right (some x0, some x1, some x2, none, none, none, none, none, ())).run none
abbrev u_lallowed_right (p : (List (List Int)) × ((List Int) × (List Int)) × (List Int)) : Rs Unit Bool := m_lallowed_right (p.1) (p.2.1) (p.2.2)
def sp_lallowed_right (K : PySem.W.Frag) : Sp := spD K cx0 (aCons (ir (rz (oT (rz (oT rI))))) (aCons (ir (rz (oT2 (rz (oT rI)) (rz (oT rI))))) (aOne (rd (oL rI))))) (fz rB) u_lallowed_right
theorem len_lallowed_right (K : PySem.W.Frag) : ∀ vs H Q E, sp_lallowed_right K vs H Q E → vs.length = 3 := len_D (ALen.cons (ALen.cons ALen.one))
def t_lallowed_right (K : PySem.W.Frag) : TS :=
    (tSeq (tFor (iRng1 (tCons (tOp rAdd (tCB (rLenL K) (tCons (tVar 2) tNil)) (tC (.int 1))) tNil)) (gName 3)
    (tSeq (tAsg (tSl (rSlL K) (tVar 2) tNoPart (tPart (tVar 3))) (gName 4))
    (tSeq (tAsg (tCB (rListOf K) (tCons (tVar 4) tNil)) (gName 5))
    (tSeq (tAsg (tCall (sp_allowed K) [] E0 (tCons (tVar 0) (tCons (tVar 1) (tCons (tVar 5) tNil)))) (gName 6))
    (tSeq (tAsg (tCall (sp_lmay K) [] E0 (tCons (tCB (rLenL K) (tCons (tVar 0) tNil)) (tCons (tVar 1) (tCons (tVar 4) tNil)))) (gName 7))
    (tSeq (tIfS (tOr (tNot (tB (tCall (sp_lsame K) [] E0 (tCons (tVar 6) (tCons (tVar 7) tNil))))) (tTest (tOp (rNeD K) (tVar 5) (tVar 4)))) (tRet (tC (.bl false))) tNext)
    (tSeq (tDrop (tBM K "list" rAppend (tVar 6) (tCons (tC (.int 0)) tNil)))
    (tSeq (tDrop (tBM0 K "list" rReverse (tVar 6)))
    (tIfS (tNot (tB (tCall (sp_lsame K) [] E0 (tCons (tCall (sp_allowed K) [] E0 (tCons (tVar 0) (tCons (tVar 1) (tCons (tVar 5) tNil)))) (tCons (tVar 7) tNil))))) (tRet (tC (.bl false))) tNext)))))))))
    (tRet (tC (.bl true))))

theorem sx_lallowed_right {K : PySem.W.Frag} : SX ⟨K, E0, cx0⟩ R_lallowed_right (fz rB) (t_lallowed_right K) M_lallowed_right :=
    (s_seqC (s_kill (Kl.and (Kl.fr a_lallowed_right_3) (Kl.and (Kl.fr a_lallowed_right_4) (Kl.and (Kl.fr a_lallowed_right_5) (Kl.and (Kl.ow a_lallowed_right_6) (Kl.fr a_lallowed_right_7))))) (s_for (vs := [3]) (x_rng1 (x_aone (x_is Cv.id (x_tOp v_add Cv.id (x_tCB v_lenL (x_aone (x_varL (Late.bo a_lallowed_right_2)))) (x_is Cv.id (x_c fun _ => rfl)))))) (n_name a_lallowed_right_3 (by decide))
    (s_kill (Kl.and (Kl.fr a_lallowed_right_3) (Kl.and (Kl.fr a_lallowed_right_4) (Kl.and (Kl.fr a_lallowed_right_5) (Kl.and (Kl.ow a_lallowed_right_6) (Kl.fr a_lallowed_right_7))))) (s_seq (s_set a_lallowed_right_4 (x_fz (x_slLF v_slL (Late.bo a_lallowed_right_2) x_noPart (x_part (x_var a_lallowed_right_3)))))
    (s_seq (s_set a_lallowed_right_5 (x_fz (x_tCBF v_lstOfL (x_aone (x_is Cv.ob (x_var a_lallowed_right_4))))))
    (s_seq (s_setO a_lallowed_right_6 (x_callF (x_acons Cv.id (x_var a_lallowed_right_0) (x_acons Cv.id (x_var a_lallowed_right_1) (x_aone (x_is Cv.ob (x_var a_lallowed_right_5)))))))
    (s_seq (s_set a_lallowed_right_7 (x_fz (x_callF (x_acons Cv.id (x_tCB v_lenT (x_aone (x_is Cv.ob (x_var a_lallowed_right_0)))) (x_acons Cv.id (x_var a_lallowed_right_1) (x_aone (x_is Cv.ob (x_var a_lallowed_right_4))))))))
    (s_seq (s_ifB (x_or (x_not (x_tB (x_call (x_aconsL (Late.ow a_lallowed_right_6) (x_aone (x_is Cv.ob (x_var a_lallowed_right_7))))))) (x_test (x_tOp (v_neD (da_Lr da_I) (da_Lr da_I) (eq_L eq_I) (by decide)) Cv.ob (x_var a_lallowed_right_5) (x_is Cv.ob (x_var a_lallowed_right_4))))) (s_ret (x_c fun _ => rfl)) s_next)
    (s_seq (s_drop (x_bm v_app ty_L nt_L ownN_q a_lallowed_right_6 (x_gone (x_c fun _ => rfl))))
    (s_seq (s_drop (x_bm0 v_revM ty_L nt_L ownN_q a_lallowed_right_6))
    (s_if (x_not (x_tB (x_call (x_acons Cv.ob (x_fz (x_callF (x_acons Cv.id (x_var a_lallowed_right_0) (x_acons Cv.id (x_var a_lallowed_right_1) (x_aone (x_is Cv.ob (x_var a_lallowed_right_5))))))) (x_aone (x_is Cv.ob (x_var a_lallowed_right_7))))))) (s_ret (x_c fun _ => rfl)) s_next)))))))))))
    (s_ret (x_c fun _ => rfl)))
theorem rd_lallowed_right {K : PySem.W.Frag} {H : Hp} {vs : List V} {Q : VK} {E : XK} {N : List Str} (h : sp_lallowed_right K vs H Q E) (hN : N.length = 8 := by rfl) : t_lallowed_right K { nx := fun _ H' => Q .non H', rt := Q } (start N vs) H := by
  have h : spD K cx0 (aCons (ir (rz (oT (rz (oT rI))))) (aCons (ir (rz (oT2 (rz (oT rI)) (rz (oT rI))))) (aOne (rd (oL rI))))) (fz rB) (fun (a : (List (List Int)) × ((List Int) × (List Int)) × (List Int)) => (M_lallowed_right (some a.1, some a.2.1, some a.2.2, none, none, none, none, none, ())).run none) vs H Q E := h
  refine d_D (dn := none) (ra := (aCons (ir (rz (oT (rz (oT rI))))) (aCons (ir (rz (oT2 (rz (oT rI)) (rz (oT rI))))) (aOne (rd (oL rI)))))) (e0 := fun (a : (List (List Int)) × ((List Int) × (List Int)) × (List Int)) => (some a.1, some a.2.1, some a.2.2, none, none, none, none, none, ())) (sx_lallowed_right) ?_ ?_ h
  · intro G H vs a s hr
    obtain ⟨v0, _, rfl, h0, ⟨v1, _, rfl, h1, ⟨v2, rfl, h2⟩⟩⟩ := hr
    rw [show start N [v0, v1, v2] = [some v0, some v1, some v2, none, none, none, none, none] by simp [L2.start, hN]]
    exact (e_fr h0 (e_fr h1 (e_bo h2 bo_D (e_frN (e_frN (e_frN (e_owN (e_frN e_nil))))))))
  · intro b h; cases h

abbrev E_law : Type := Option (List Int) × Option ((List Int) × Int × Int) × Option (List (List Int)) × Option Int × Option (List Int) × Option Int × Option Int × Option (List (List Int)) × Option ((List Int) × (List Int)) × Option Th × Option Int × Option Int × Option (List Int) × Option Bool × Unit
def R_law : ERep E_law := (eFr rScr (eOw oPd (eFr (rz (oT (rz (oT rI)))) (eFr rI (eFr (rz (oL rI)) (eFr rI (eFr rI (eFr (rz (oT (rz (oT rI)))) (eFr (rz (oT2 (rz (oT rI)) (rz (oT rI)))) (eFr rTh (eFr rI (eFr rI (eOw (oL rI) (eFr rB eNil))))))))))))))
abbrev l_law_0 : Ln E_law (List Int) := Ln.z
theorem a_law_0 : FrAt R_law 0 rScr l_law_0 := FrAt.z
abbrev l_law_1 : Ln E_law ((List Int) × Int × Int) := (Ln.s Ln.z)
theorem a_law_1 : OwAt R_law 1 ownN oPd l_law_1 := (OwAt.sF OwAt.z)
abbrev l_law_2 : Ln E_law (List (List Int)) := (Ln.s (Ln.s Ln.z))
theorem a_law_2 : FrAt R_law 2 (rz (oT (rz (oT rI)))) l_law_2 := (FrAt.sF (FrAt.sO FrAt.z))
abbrev l_law_3 : Ln E_law Int := (Ln.s (Ln.s (Ln.s Ln.z)))
theorem a_law_3 : FrAt R_law 3 rI l_law_3 := (FrAt.sF (FrAt.sO (FrAt.sF FrAt.z)))
abbrev l_law_4 : Ln E_law (List Int) := (Ln.s (Ln.s (Ln.s (Ln.s Ln.z))))
theorem a_law_4 : FrAt R_law 4 (rz (oL rI)) l_law_4 := (FrAt.sF (FrAt.sO (FrAt.sF (FrAt.sF FrAt.z))))
abbrev l_law_5 : Ln E_law Int := (Ln.s (Ln.s (Ln.s (Ln.s (Ln.s Ln.z)))))
theorem a_law_5 : FrAt R_law 5 rI l_law_5 := (FrAt.sF (FrAt.sO (FrAt.sF (FrAt.sF (FrAt.sF FrAt.z)))))
abbrev l_law_6 : Ln E_law Int := (Ln.s (Ln.s (Ln.s (Ln.s (Ln.s (Ln.s Ln.z))))))
theorem a_law_6 : FrAt R_law 6 rI l_law_6 := (FrAt.sF (FrAt.sO (FrAt.sF (FrAt.sF (FrAt.sF (FrAt.sF FrAt.z))))))
abbrev l_law_7 : Ln E_law (List (List Int)) := (Ln.s (Ln.s (Ln.s (Ln.s (Ln.s (Ln.s (Ln.s Ln.z)))))))
theorem a_law_7 : FrAt R_law 7 (rz (oT (rz (oT rI)))) l_law_7 := (FrAt.sF (FrAt.sO (FrAt.sF (FrAt.sF (FrAt.sF (FrAt.sF (FrAt.sF FrAt.z)))))))
abbrev l_law_8 : Ln E_law ((List Int) × (List Int)) := (Ln.s (Ln.s (Ln.s (Ln.s (Ln.s (Ln.s (Ln.s (Ln.s Ln.z))))))))
theorem a_law_8 : FrAt R_law 8 (rz (oT2 (rz (oT rI)) (rz (oT rI)))) l_law_8 := (FrAt.sF (FrAt.sO (FrAt.sF (FrAt.sF (FrAt.sF (FrAt.sF (FrAt.sF (FrAt.sF FrAt.z))))))))
abbrev l_law_9 : Ln E_law Th := (Ln.s (Ln.s (Ln.s (Ln.s (Ln.s (Ln.s (Ln.s (Ln.s (Ln.s Ln.z)))))))))
theorem a_law_9 : FrAt R_law 9 rTh l_law_9 := (FrAt.sF (FrAt.sO (FrAt.sF (FrAt.sF (FrAt.sF (FrAt.sF (FrAt.sF (FrAt.sF (FrAt.sF FrAt.z)))))))))
abbrev l_law_10 : Ln E_law Int := (Ln.s (Ln.s (Ln.s (Ln.s (Ln.s (Ln.s (Ln.s (Ln.s (Ln.s (Ln.s Ln.z))))))))))
theorem a_law_10 : FrAt R_law 10 rI l_law_10 := (FrAt.sF (FrAt.sO (FrAt.sF (FrAt.sF (FrAt.sF (FrAt.sF (FrAt.sF (FrAt.sF (FrAt.sF (FrAt.sF FrAt.z))))))))))
abbrev l_law_11 : Ln E_law Int := (Ln.s (Ln.s (Ln.s (Ln.s (Ln.s (Ln.s (Ln.s (Ln.s (Ln.s (Ln.s (Ln.s Ln.z)))))))))))
theorem a_law_11 : FrAt R_law 11 rI l_law_11 := (FrAt.sF (FrAt.sO (FrAt.sF (FrAt.sF (FrAt.sF (FrAt.sF (FrAt.sF (FrAt.sF (FrAt.sF (FrAt.sF (FrAt.sF FrAt.z)))))))))))
abbrev l_law_12 : Ln E_law (List Int) := (Ln.s (Ln.s (Ln.s (Ln.s (Ln.s (Ln.s (Ln.s (Ln.s (Ln.s (Ln.s (Ln.s (Ln.s Ln.z))))))))))))
theorem a_law_12 : OwAt R_law 12 ownN (oL rI) l_law_12 := (OwAt.sF (OwAt.sO (OwAt.sF (OwAt.sF (OwAt.sF (OwAt.sF (OwAt.sF (OwAt.sF (OwAt.sF (OwAt.sF (OwAt.sF (OwAt.sF OwAt.z))))))))))))
abbrev l_law_13 : Ln E_law Bool := (Ln.s (Ln.s (Ln.s (Ln.s (Ln.s (Ln.s (Ln.s (Ln.s (Ln.s (Ln.s (Ln.s (Ln.s (Ln.s Ln.z)))))))))))))
theorem a_law_13 : FrAt R_law 13 rB l_law_13 := (FrAt.sF (FrAt.sO (FrAt.sF (FrAt.sF (FrAt.sF (FrAt.sF (FrAt.sF (FrAt.sF (FrAt.sF (FrAt.sF (FrAt.sF (FrAt.sF (FrAt.sO FrAt.z)))))))))))))
def M_law : E_law → So E_law Bool :=
    (mSeq (mSet l_law_1 (mCall (fun p => m_lpen p) (mVar l_law_0)))
    (mSeq (mIfB (mOr (mOp gNe (mC (([], []) : List Int × List Int)) (mUn some (mPair (mUn szOk (mC ([] : List Int))) (mUn szOk (mC ([] : List Int)))))) (mNot (mUn (gIsi true) (mPair (mC (([], []) : List Int × List Int)) (mC ()))))) (mRet (mC false)) mNext)
    (mSeq (mSet l_law_2 (mCallI l_law_1 (fun s p => m_lshape s ) (mC ())))
    (mSeq (mSet l_law_3 (mUn gLen (mVar l_law_2)))
    (mSeq (mSet l_law_4 (mCallI l_law_1 (fun s p => m_lturned s p) (mUn gRg (mVar l_law_3))))
    (mSeq (mSet l_law_5 (mOp gIx (mUn szOk (mCons (mCallI l_law_1 (fun s p => m_ldraw s p) (mOp gAdd (mVar l_law_3) (mC (1 : Int)))) (mCons (mUn gMin2 (mPair (mVar l_law_3) (mC (2 : Int)))) (mCons (mC (0 : Int)) (mC []))))) (mCallI l_law_1 (fun s p => m_ldraw s p) (mC (3 : Int)))))
    (mSeq (mSet l_law_6 (mOp gIx (mUn szOk (mCons (mCallI l_law_1 (fun s p => m_ldraw s p) (mOp gAdd (mOp gSubI (mVar l_law_3) (mVar l_law_5)) (mC (1 : Int)))) (mCons (mUn gMin2 (mPair (mOp gSubI (mVar l_law_3) (mVar l_law_5)) (mC (1 : Int)))) (mCons (mC (0 : Int)) (mCons (mOp gSubI (mVar l_law_3) (mVar l_law_5)) (mC [])))))) (mCallI l_law_1 (fun s p => m_ldraw s p) (mC (4 : Int)))))
    (mSeq (mSet l_law_7 (mUn szOk (mCons (mUn gId (mSl gCut (mVar l_law_4) (mC none) (mPart (mVar l_law_5)))) (mCons (mUn gId (mSl gCut (mVar l_law_4) (mPart (mOp gSubI (mVar l_law_3) (mVar l_law_6))) (mC none))) (mC [])))))
    (mCut (mKill (fun e => (Ln.put l_law_8 none e)) (mFor (mUn szOk (mCons (mUn gTwo (mVar l_law_7)) (mCons (mUn some (mPair (mUn szOk (mC ([] : List Int))) (mUn szOk (mC ([] : List Int))))) (mCons (mUn some (mPair (mOp gIx (mVar l_law_7) (mC (1 : Int))) (mOp gIx (mVar l_law_7) (mC (0 : Int))))) (mC []))))) (pN l_law_8)
    (mKill (fun e => (Ln.put l_law_8 none e)) (mIfS (mNot (mCall (fun p => m_lis (p.1) (p.2)) (mPair (mCall (fun p => m_is_wish (p.1) (p.2)) (mPair (mVar l_law_2) (mUn (toTh (fun p => Th.tup [(fun xs => Th.tup (List.map Th.int xs)) p.1, (fun xs => Th.tup (List.map Th.int xs)) p.2])) (mVar l_law_8)))) (mC true)))) (mRet (mC false)) mNext))))
    (mCut (mKill (fun e => (Ln.put l_law_9 none e)) (mFor (mCallI l_law_1 (fun s p => m_lspoilt s (p.1) (p.2)) (mPair (mUn gTwo (mVar l_law_7)) (mVar l_law_3))) (pN l_law_9)
    (mKill (fun e => (Ln.put l_law_9 none e)) (mIfS (mNot (mCall (fun p => m_lis (p.1) (p.2)) (mPair (mCall (fun p => m_is_wish (p.1) (p.2)) (mPair (mVar l_law_2) (mVar l_law_9))) (mC false)))) (mRet (mC false)) mNext))))
    (mSeq (mSet l_law_10 (mCallI l_law_1 (fun s p => m_ldraw s p) (mVar l_law_3)))
    (mSeq (mSet l_law_11 (mCallI l_law_1 (fun s p => m_ldraw s p) (mVar l_law_3)))
    (mSeq (mSet l_law_12 (mUn gId (mVar l_law_4)))
    (mSeq (mSetI l_law_12 gSetL (mVar l_law_10) (mOp gIx (mVar l_law_4) (mVar l_law_11)))
    (mSeq (mSetI l_law_12 gSetL (mVar l_law_11) (mOp gIx (mVar l_law_4) (mVar l_law_10)))
    (mSeq (mSet l_law_13 (mAnd (mOp gEq (mSlL gCut l_law_12 (mC none) (mPart (mVar l_law_5))) (mSl gCut (mVar l_law_4) (mC none) (mPart (mVar l_law_5)))) (mOp gEq (mSlL gCut l_law_12 (mPart (mOp gSubI (mVar l_law_3) (mVar l_law_6))) (mC none)) (mSl gCut (mVar l_law_4) (mPart (mOp gSubI (mVar l_law_3) (mVar l_law_6))) (mC none)))))
    (mSeq (mIfB (mOr (mNot (mCall (fun p => m_lis (p.1) (p.2)) (mPair (mCall (fun p => m_is_wished (p.1) (p.2)) (mPair (mUn gTwo (mVar l_law_7)) (mUn gId (mVar l_law_4)))) (mC true)))) (mNot (mCall (fun p => m_lis (p.1) (p.2)) (mPair (mCall (fun p => m_is_wished (p.1) (p.2)) (mPair (mUn gTwo (mVar l_law_7)) (mVar l_law_12))) (mVar l_law_13))))) (mRet (mC false)) mNext)
    (mSeq (mIfS (mNot (mCall (fun p => m_lis (p.1) (p.2)) (mPair (mCall (fun p => m_is_wished (p.1) (p.2)) (mPair (mUn some (mPair (mUn szOk (mC ([] : List Int))) (mUn szOk (mC ([] : List Int))))) (mVar l_law_12))) (mC true)))) (mRet (mC false)) mNext)
    (mRet (mAnd (mCall (fun p => m_lallowed_right (p.1) (p.2.1) (p.2.2)) (mPair (mVar l_law_2) (mPair (mUn gTwo (mVar l_law_7)) (mVar l_law_4)))) (mCall (fun p => m_lallowed_right (p.1) (p.2.1) (p.2.2)) (mPair (mVar l_law_2) (mPair (mUn some (mPair (mUn szOk (mC ([] : List Int))) (mUn szOk (mC ([] : List Int))))) (mVar l_law_12))))))))))))))))))))))))
def m_law (x0 : (List Int)) : Rs Unit Bool := (M_law (some x0, none, none, none, none, none, none, none, none, none, none, none, none, none, ())).run none
abbrev u_law (p : (List Int)) : Rs Unit Bool := m_law p
def sp_law (K : PySem.W.Frag) : Sp := spD K cx0 (aOne (ir rScr)) (fz rB) u_law
theorem len_law (K : PySem.W.Frag) : ∀ vs H Q E, sp_law K vs H Q E → vs.length = 1 := len_D ALen.one
def t_law (K : PySem.W.Frag) : TS :=
    (tSeq (tAsg (tCall (sp_lpen K) [] E0 (tCons (tVar 0) tNil)) (gName 1))
    (tSeq (tIfS (tOr (tTest (tOp (rNeD K) (tKW K) (tTup (tCons (tTup tNil) (tCons (tTup tNil) tNil))))) (tNot (tB (tCB (rIsi K) (tCons (tKW K) (tCons (tC (.ty "tuple")) tNil)))))) (tRet (tC (.bl false))) tNext)
    (tSeq (tAsg (tCall (sp_lshape K) [] E0 (tCons (tVar 1) tNil)) (gName 2))
    (tSeq (tAsg (tCB (rLenL K) (tCons (tVar 2) tNil)) (gName 3))
    (tSeq (tAsg (tCall (sp_lturned K) [] E0 (tCons (tVar 1) (tCons (tLstRg (tRg1 (tVar 3))) tNil))) (gName 4))
    (tSeq (tAsg (tOp (rIxL K) (tLst (tCons (tCall (sp_ldraw K) [] E0 (tCons (tVar 1) (tCons (tOp rAdd (tVar 3) (tC (.int 1))) tNil))) (tCons (tCB rMin2 (tCons (tVar 3) (tCons (tC (.int 2)) tNil))) (tCons (tC (.int 0)) tNil)))) (tCall (sp_ldraw K) [] E0 (tCons (tVar 1) (tCons (tC (.int 3)) tNil)))) (gName 5))
    (tSeq (tAsg (tOp (rIxL K) (tLst (tCons (tCall (sp_ldraw K) [] E0 (tCons (tVar 1) (tCons (tOp rAdd (tOp rSub (tVar 3) (tVar 5)) (tC (.int 1))) tNil))) (tCons (tCB rMin2 (tCons (tOp rSub (tVar 3) (tVar 5)) (tCons (tC (.int 1)) tNil))) (tCons (tC (.int 0)) (tCons (tOp rSub (tVar 3) (tVar 5)) tNil))))) (tCall (sp_ldraw K) [] E0 (tCons (tVar 1) (tCons (tC (.int 4)) tNil)))) (gName 6))
    (tSeq (tAsg (tTup (tCons (tCB (rTupOf K) (tCons (tSl (rSlL K) (tVar 4) tNoPart (tPart (tVar 5))) tNil)) (tCons (tCB (rTupOf K) (tCons (tSl (rSlL K) (tVar 4) (tPart (tOp rSub (tVar 3) (tVar 6))) tNoPart) tNil)) tNil))) (gName 7))
    (tSeq (tFor (iList K (tLst (tCons (tVar 7) (tCons (tTup (tCons (tTup tNil) (tCons (tTup tNil) tNil))) (tCons (tTup (tCons (tOp (rIxT K) (tVar 7) (tC (.int 1))) (tCons (tOp (rIxT K) (tVar 7) (tC (.int 0))) tNil))) tNil))))) (gName 8)
    (tIfS (tNot (tB (tCall (sp_lis K) [] E0 (tCons (tCall (sp_is_wish K) [] E0 (tCons (tVar 2) (tCons (tVar 8) tNil))) (tCons (tC (.bl true)) tNil))))) (tRet (tC (.bl false))) tNext))
    (tSeq (tFor (iList K (tCall (sp_lspoilt K) [] E0 (tCons (tVar 1) (tCons (tVar 7) (tCons (tVar 3) tNil))))) (gName 9)
    (tIfS (tNot (tB (tCall (sp_lis K) [] E0 (tCons (tCall (sp_is_wish K) [] E0 (tCons (tVar 2) (tCons (tVar 9) tNil))) (tCons (tC (.bl false)) tNil))))) (tRet (tC (.bl false))) tNext))
    (tSeq (tAsg (tCall (sp_ldraw K) [] E0 (tCons (tVar 1) (tCons (tVar 3) tNil))) (gName 10))
    (tSeq (tAsg (tCall (sp_ldraw K) [] E0 (tCons (tVar 1) (tCons (tVar 3) tNil))) (gName 11))
    (tSeq (tAsg (tCB (rListOf K) (tCons (tVar 4) tNil)) (gName 12))
    (tSeq (tAsg (tOp (rIxL K) (tVar 4) (tVar 11)) (gSub (tVar 12) (tVar 10) rSetL))
    (tSeq (tAsg (tOp (rIxL K) (tVar 4) (tVar 10)) (gSub (tVar 12) (tVar 11) rSetL))
    (tSeq (tAsg (tAndV (tOp (rEqD K) (tSl (rSlL K) (tVar 12) tNoPart (tPart (tVar 5))) (tSl (rSlL K) (tVar 4) tNoPart (tPart (tVar 5)))) (tOp (rEqD K) (tSl (rSlL K) (tVar 12) (tPart (tOp rSub (tVar 3) (tVar 6))) tNoPart) (tSl (rSlL K) (tVar 4) (tPart (tOp rSub (tVar 3) (tVar 6))) tNoPart))) (gName 13))
    (tSeq (tIfS (tOr (tNot (tB (tCall (sp_lis K) [] E0 (tCons (tCall (sp_is_wished K) [] E0 (tCons (tVar 7) (tCons (tCB (rListOf K) (tCons (tVar 4) tNil)) tNil))) (tCons (tC (.bl true)) tNil))))) (tNot (tB (tCall (sp_lis K) [] E0 (tCons (tCall (sp_is_wished K) [] E0 (tCons (tVar 7) (tCons (tVar 12) tNil))) (tCons (tVar 13) tNil)))))) (tRet (tC (.bl false))) tNext)
    (tSeq (tIfS (tNot (tB (tCall (sp_lis K) [] E0 (tCons (tCall (sp_is_wished K) [] E0 (tCons (tTup (tCons (tTup tNil) (tCons (tTup tNil) tNil))) (tCons (tVar 12) tNil))) (tCons (tC (.bl true)) tNil))))) (tRet (tC (.bl false))) tNext)
    (tRet (tAndV (tCall (sp_lallowed_right K) [] E0 (tCons (tVar 2) (tCons (tVar 7) (tCons (tVar 4) tNil)))) (tCall (sp_lallowed_right K) [] E0 (tCons (tVar 2) (tCons (tTup (tCons (tTup tNil) (tCons (tTup tNil) tNil))) (tCons (tVar 12) tNil))))))))))))))))))))))))

theorem sx_law {K : PySem.W.Frag} : SX ⟨K, E0, cx0⟩ R_law (fz rB) (t_law K) M_law :=
    (s_seq (s_setO a_law_1 (x_callF (x_aone (x_is Cv.id (x_var a_law_0)))))
    (s_seq (s_ifB (x_or (x_test (x_tOp (v_neD da_KW (da_T2 (da_T da_I) (da_T da_I)) (eq_T2 (eq_T eq_I) (eq_T eq_I)) (by decide)) Cv.id x_kw (x_is Cv.id (x_tup2 (x_p2 (x_tup (x_lnil (r := rI))) (x_tup (x_lnil (r := rI)))))))) (x_not (x_tB (x_tCB (v_isi kd_KW (fun _ => kit_ty (by decide +kernel))) (x_acons Cv.id x_kw (x_aone (x_is Cv.id (x_c (r := rTy "tuple") (a := ()) fun _ => rfl)))))))) (s_ret (x_c fun _ => rfl)) s_next)
    (s_seq (s_set a_law_2 (x_callI a_law_1 ownN_q x_pnil))
    (s_seq (s_set a_law_3 (x_tCB v_lenT (x_aone (x_is Cv.ob (x_var a_law_2)))))
    (s_seq (s_set a_law_4 (x_fz (x_callIF a_law_1 ownN_q (x_pone Cv.ob (x_fz (x_lstRg (x_is Cv.id (x_var a_law_3))))))))
    (s_seq (s_set a_law_5 (x_tOp v_ixL Cv.ob (x_fz (x_lst (x_lcons (x_callI a_law_1 ownN_q (x_pone Cv.id (x_tOp v_add Cv.id (x_var a_law_3) (x_is Cv.id (x_c fun _ => rfl))))) (x_lcons (x_tCB v_min2 (x_acons Cv.id (x_var a_law_3) (x_aone (x_is Cv.id (x_c fun _ => rfl))))) (x_lcons (x_c fun _ => rfl) x_lnil))))) (x_is Cv.id (x_callI a_law_1 ownN_q (x_pone Cv.id (x_c fun _ => rfl))))))
    (s_seq (s_set a_law_6 (x_tOp v_ixL Cv.ob (x_fz (x_lst (x_lcons (x_callI a_law_1 ownN_q (x_pone Cv.id (x_tOp v_add Cv.id (x_tOp v_sub Cv.id (x_var a_law_3) (x_is Cv.id (x_var a_law_5))) (x_is Cv.id (x_c fun _ => rfl))))) (x_lcons (x_tCB v_min2 (x_acons Cv.id (x_tOp v_sub Cv.id (x_var a_law_3) (x_is Cv.id (x_var a_law_5))) (x_aone (x_is Cv.id (x_c fun _ => rfl))))) (x_lcons (x_c fun _ => rfl) (x_lcons (x_tOp v_sub Cv.id (x_var a_law_3) (x_is Cv.id (x_var a_law_5))) x_lnil)))))) (x_is Cv.id (x_callI a_law_1 ownN_q (x_pone Cv.id (x_c fun _ => rfl))))))
    (s_seq (s_set a_law_7 (x_tup (x_lcons (x_tCB v_tupOfL (x_aone (x_is Cv.ob (x_fz (x_slF v_slL Cv.ob (x_var a_law_4) x_noPart (x_part (x_var a_law_5))))))) (x_lcons (x_tCB v_tupOfL (x_aone (x_is Cv.ob (x_fz (x_slF v_slL Cv.ob (x_var a_law_4) (x_part (x_tOp v_sub Cv.id (x_var a_law_3) (x_is Cv.id (x_var a_law_6)))) x_noPart))))) x_lnil))))
    (s_seqC (s_kill (Kl.fr a_law_8) (s_for (vs := [8]) (x_iL (x_fz (x_lst (x_lcons (x_cast c_twoT (x_var a_law_7)) (x_lcons (x_tup2 (x_p2 (x_tup (x_lnil (r := rI))) (x_tup (x_lnil (r := rI))))) (x_lcons (x_tup2 (x_p2 (x_tOp v_ixT Cv.ob (x_var a_law_7) (x_is Cv.id (x_c fun _ => rfl))) (x_tOp v_ixT Cv.ob (x_var a_law_7) (x_is Cv.id (x_c fun _ => rfl))))) x_lnil)))))) (n_name a_law_8 (by decide))
    (s_kill (Kl.fr a_law_8) (s_if (x_not (x_tB (x_call (x_acons Cv.id (x_call (x_acons Cv.id (x_var a_law_2) (x_aone (x_is Cv.id (x_cast (ci_T2 (ci_T ci_I) (ci_T ci_I)) (x_var a_law_8)))))) (x_aone (x_is Cv.id (x_c fun _ => rfl))))))) (s_ret (x_c fun _ => rfl)) s_next))))
    (s_seqC (s_kill (Kl.fr a_law_9) (s_for (vs := [9]) (x_iL (x_callI a_law_1 ownN_q (x_pcons Cv.id (x_cast c_twoT (x_var a_law_7)) (x_pone Cv.id (x_var a_law_3))))) (n_name a_law_9 (by decide))
    (s_kill (Kl.fr a_law_9) (s_if (x_not (x_tB (x_call (x_acons Cv.id (x_call (x_acons Cv.id (x_var a_law_2) (x_aone (x_is Cv.id (x_var a_law_9))))) (x_aone (x_is Cv.id (x_c fun _ => rfl))))))) (s_ret (x_c fun _ => rfl)) s_next))))
    (s_seq (s_set a_law_10 (x_callI a_law_1 ownN_q (x_pone Cv.id (x_var a_law_3))))
    (s_seq (s_set a_law_11 (x_callI a_law_1 ownN_q (x_pone Cv.id (x_var a_law_3))))
    (s_seq (s_setO a_law_12 (x_tCBF v_lstOfL (x_aone (x_is Cv.ob (x_var a_law_4)))))
    (s_seq (s_setI v_setIL nt_L ownN_q a_law_12 (x_tOp v_ixL Cv.ob (x_var a_law_4) (x_is Cv.id (x_var a_law_11))) (x_var a_law_10))
    (s_seq (s_setI v_setIL nt_L ownN_q a_law_12 (x_tOp v_ixL Cv.ob (x_var a_law_4) (x_is Cv.id (x_var a_law_10))) (x_var a_law_11))
    (s_seq (s_set a_law_13 (x_andV (x_tOp (v_eqD (da_Lr da_I) (da_Lr da_I) (eq_L eq_I) (by decide)) Cv.ob (x_fz (x_slLF v_slL (Late.ow a_law_12) x_noPart (x_part (x_var a_law_5)))) (x_is Cv.ob (x_fz (x_slF v_slL Cv.ob (x_var a_law_4) x_noPart (x_part (x_var a_law_5)))))) (x_tOp (v_eqD (da_Lr da_I) (da_Lr da_I) (eq_L eq_I) (by decide)) Cv.ob (x_fz (x_slLF v_slL (Late.ow a_law_12) (x_part (x_tOp v_sub Cv.id (x_var a_law_3) (x_is Cv.id (x_var a_law_6)))) x_noPart)) (x_is Cv.ob (x_fz (x_slF v_slL Cv.ob (x_var a_law_4) (x_part (x_tOp v_sub Cv.id (x_var a_law_3) (x_is Cv.id (x_var a_law_6)))) x_noPart))))))
    (s_seq (s_ifB (x_or (x_not (x_tB (x_call (x_acons Cv.id (x_call (x_acons Cv.id (x_cast c_twoT (x_var a_law_7)) (x_aone (x_is Cv.ob (x_fz (x_tCBF v_lstOfL (x_aone (x_is Cv.ob (x_var a_law_4))))))))) (x_aone (x_is Cv.id (x_c fun _ => rfl))))))) (x_not (x_tB (x_call (x_acons Cv.id (x_call (x_acons Cv.id (x_cast c_twoT (x_var a_law_7)) (x_aone (x_varL (Late.ow a_law_12))))) (x_aone (x_is Cv.id (x_var a_law_13)))))))) (s_ret (x_c fun _ => rfl)) s_next)
    (s_seq (s_if (x_not (x_tB (x_call (x_acons Cv.id (x_call (x_acons Cv.id (x_tup2 (x_p2 (x_tup (x_lnil (r := rI))) (x_tup (x_lnil (r := rI))))) (x_aone (x_varL (Late.ow a_law_12))))) (x_aone (x_is Cv.id (x_c fun _ => rfl))))))) (s_ret (x_c fun _ => rfl)) s_next)
    (s_ret (x_andV (x_call (x_acons Cv.id (x_var a_law_2) (x_acons Cv.id (x_cast c_twoT (x_var a_law_7)) (x_aone (x_is Cv.ob (x_var a_law_4)))))) (x_call (x_acons Cv.id (x_var a_law_2) (x_acons Cv.id (x_tup2 (x_p2 (x_tup (x_lnil (r := rI))) (x_tup (x_lnil (r := rI))))) (x_aone (x_varL (Late.ow a_law_12))))))))))))))))))))))))))
theorem rd_law {K : PySem.W.Frag} {H : Hp} {vs : List V} {Q : VK} {E : XK} {N : List Str} (h : sp_law K vs H Q E) (hN : N.length = 14 := by rfl) : t_law K { nx := fun _ H' => Q .non H', rt := Q } (start N vs) H := by
  have h : spD K cx0 (aOne (ir rScr)) (fz rB) (fun (a : (List Int)) => (M_law (some a, none, none, none, none, none, none, none, none, none, none, none, none, none, ())).run none) vs H Q E := h
  refine d_D (dn := none) (ra := (aOne (ir rScr))) (e0 := fun (a : (List Int)) => (some a, none, none, none, none, none, none, none, none, none, none, none, none, none, ())) (sx_law) ?_ ?_ h
  · intro G H vs a s hr
    obtain ⟨v0, rfl, h0⟩ := hr
    rw [show start N [v0] = [some v0, none, none, none, none, none, none, none, none, none, none, none, none, none] by simp [L2.start, hN]]
    exact (e_fr h0 (e_owN (e_frN (e_frN (e_frN (e_frN (e_frN (e_frN (e_frN (e_frN (e_frN (e_frN (e_owN (e_frN e_nil))))))))))))))
  · intro b h; cases h

local macro_rules | `(tactic| walk_at "mi") => `(tactic| simp only [rp_runD, rp_runDS, rp_runI, rp_runIS, sp_seq, sp_kill, sp_al, sp_for, sp_ret, sp_drop, sp_set, sp_asgN, sp_if, sp_next, sp_mbk, sp_mct, sp_nx, sp_ct, sp_bk, sp_rt, sp_so, sp_ite, sp_setI, rp_ok, rp_bad, rp_of, rp_bind, rp_bindN, rp_run, rp_ite, rp_un, rp_op, rp_var, rp_move, rp_c, rp_opL, rp_pair, rp_pairL, rp_cons, rp_call, rp_callI, rp_bm, rp_bm0, rp_not, rp_and, rp_or, rp_if, rp_chain, rp_mSome, rp_mNone, rp_part, rp_sl, rp_slL, rp_rng1, rp_rng2, rp_enum, rp_lock, rp_dget2, rp_keys, rp_lc, rp_yes, rp_callX, rp_callXI, rp_signs, rp_unw, sp_asg, rp_ptTwo, rp_ptSub, gLen2, Ln.get_zlS, Ln.get_zlN, Ln.put_zlS, Ln.put_zlN, Ln.get_zrS, Ln.get_zrN, Ln.put_zrS, Ln.put_zrN, gSetF, gSsetF, gStep, gCut32, gMin2, gMax2, gRem, gIsi, gSortK, gStr, gLenS, gUpd, gSplit, gIntS, gSortF, op_some, op_ite, Ln.get_z, Ln.put_z, Ln.get_s, Ln.put_s, pN, p2, p3, gAdd, gSubI, gMul, gDiv, gMod, gPow, gShl, gShr, gAnd, gOr, gXor, gLt, gLe, gGt, gGe, gEq, gNe, gNeg, gIsN, gNotN, gLen, gFst, gSnd, g31, g32, gCat, gRep, gCut, gId, gRg, gRev, gIn, gNin, gAll, gAny, gSum, gMax, gAbs, gIntB, gSort, gSet, gSset, gApp, gIns, gExt, gRevM, gSet31, gSet32, dIn, dNin, gDPut, gRepr, szOk, id, if_true, if_false, decide_eq_true_eq, true_and, and_true, Bool.false_eq_true, ite_true, ite_false, eq_self_iff_true, and_self, true_or, or_true, Int.reduceLT, Int.reduceLE, Int.reduceNeg, Int.reduceSub, Int.reduceAdd, Int.reduceMul, Int.reduceEq, Nat.reduceLT, Nat.reduceLeDiff, Nat.reduceAdd, Nat.reduceSub, Nat.reduceMul, List.length_cons, List.length_nil])
local macro_rules | `(tactic| walk_at "mx") => `(tactic| simp only [rx_ok, rx_bad, rx_of, rx_bind, rx_run, rx_ite, sx_nx, sx_ct, sx_bk, sx_rt, sx_so, sx_ite, sx_seq, sx_kill, sx_for, sx_ret, sx_drop, sx_set, sx_asgN, sx_if, sx_next, sx_mbk, sx_mct, rx_un, rx_op, rx_var, rx_move, rx_c, rx_opL, rx_pair, rx_pairL, rx_cons, rx_call, rx_callI, rx_bm, rx_bm0, sx_setI, rx_not, rx_and, rx_or, rx_if, rx_chain, rx_mSome, rx_mNone, rx_part, rx_sl, rx_slL, rx_rng1, rx_rng2, rx_enum, rx_lock, rx_dget2, rx_keys, rx_lc, rx_yes, rx_runD, rx_runDS, sx_raise, sx_asg, rx_unw, rx_callE, gSsetG, rp_lam, rx_out, rp_out, toL, toR, toTh, gDisp1, gRepT, gDictP, pairTh, gIsTB, gNotTB, gIsTh_int, gIsTh_bool, gIsTh_list, gIsTh_tuple, gIsTh_str, gIsTh_dict, List.map_id', rp_runD, rp_runDS, rp_runI, rp_runIS, sp_seq, sp_kill, sp_al, sp_for, sp_ret, sp_drop, sp_set, sp_asgN, sp_if, sp_next, sp_mbk, sp_mct, sp_nx, sp_ct, sp_bk, sp_rt, sp_so, sp_ite, sp_setI, rp_ok, rp_bad, rp_of, rp_bind, rp_bindN, rp_run, rp_ite, rp_un, rp_op, rp_var, rp_move, rp_c, rp_opL, rp_pair, rp_pairL, rp_cons, rp_call, rp_callI, rp_bm, rp_bm0, rp_not, rp_and, rp_or, rp_if, rp_chain, rp_mSome, rp_mNone, rp_part, rp_sl, rp_slL, rp_rng1, rp_rng2, rp_enum, rp_lock, rp_dget2, rp_keys, rp_lc, rp_yes, rp_callX, rp_callXI, rp_signs, rp_unw, sp_asg, rp_ptTwo, rp_ptSub, gLen2, Ln.get_zlS, Ln.get_zlN, Ln.put_zlS, Ln.put_zlN, Ln.get_zrS, Ln.get_zrN, Ln.put_zrS, Ln.put_zrN, gSetF, gSsetF, gStep, gCut32, gMin2, gMax2, gRem, gIsi, gSortK, gStr, gLenS, gUpd, gSplit, gIntS, gSortF, op_some, op_ite, Ln.get_z, Ln.put_z, Ln.get_s, Ln.put_s, pN, p2, p3, gAdd, gSubI, gMul, gDiv, gMod, gPow, gShl, gShr, gAnd, gOr, gXor, gLt, gLe, gGt, gGe, gEq, gNe, gNeg, gIsN, gNotN, gLen, gFst, gSnd, g31, g32, gCat, gRep, gCut, gId, gRg, gRev, gIn, gNin, gAll, gAny, gSum, gMax, gAbs, gIntB, gSort, gSet, gSset, gApp, gIns, gExt, gRevM, gSet31, gSet32, dIn, dNin, gDPut, gRepr, szOk, id, if_true, if_false, decide_eq_true_eq, true_and, and_true, Bool.false_eq_true, ite_true, ite_false, eq_self_iff_true, and_self, true_or, or_true, Int.reduceLT, Int.reduceLE, Int.reduceNeg, Int.reduceSub, Int.reduceAdd, Int.reduceMul, Int.reduceEq, Nat.reduceLT, Nat.reduceLeDiff, Nat.reduceAdd, Nat.reduceSub, Nat.reduceMul, List.length_cons, List.length_nil])
local macro_rules | `(tactic| walk_at "mg") => `(tactic| simp only [gLenSI, gLenST, gDispT, gMulW, rx_ok, rx_bad, rx_of, rx_bind, rx_run, rx_ite, sx_nx, sx_ct, sx_bk, sx_rt, sx_so, sx_ite, sx_seq, sx_kill, sx_for, sx_ret, sx_drop, sx_set, sx_asgN, sx_if, sx_next, sx_mbk, sx_mct, rx_un, rx_op, rx_var, rx_move, rx_c, rx_opL, rx_pair, rx_pairL, rx_cons, rx_call, rx_callI, rx_bm, rx_bm0, sx_setI, rx_not, rx_and, rx_or, rx_if, rx_chain, rx_mSome, rx_mNone, rx_part, rx_sl, rx_slL, rx_rng1, rx_rng2, rx_enum, rx_lock, rx_dget2, rx_keys, rx_lc, rx_yes, rx_runD, rx_runDS, sx_raise, sx_asg, rx_unw, rx_callE, gSsetG, rp_lam, rx_out, rp_out, toL, toR, toTh, gDisp1, gRepT, gDictP, pairTh, gIsTB, gNotTB, gIsTh_int, gIsTh_bool, gIsTh_list, gIsTh_tuple, gIsTh_str, gIsTh_dict, List.map_id', rp_runD, rp_runDS, rp_runI, rp_runIS, sp_seq, sp_kill, sp_al, sp_for, sp_ret, sp_drop, sp_set, sp_asgN, sp_if, sp_next, sp_mbk, sp_mct, sp_nx, sp_ct, sp_bk, sp_rt, sp_so, sp_ite, sp_setI, rp_ok, rp_bad, rp_of, rp_bind, rp_bindN, rp_run, rp_ite, rp_un, rp_op, rp_var, rp_move, rp_c, rp_opL, rp_pair, rp_pairL, rp_cons, rp_call, rp_callI, rp_bm, rp_bm0, rp_not, rp_and, rp_or, rp_if, rp_chain, rp_mSome, rp_mNone, rp_part, rp_sl, rp_slL, rp_rng1, rp_rng2, rp_enum, rp_lock, rp_dget2, rp_keys, rp_lc, rp_yes, rp_callX, rp_callXI, rp_signs, rp_unw, sp_asg, rp_ptTwo, rp_ptSub, gLen2, Ln.get_zlS, Ln.get_zlN, Ln.put_zlS, Ln.put_zlN, Ln.get_zrS, Ln.get_zrN, Ln.put_zrS, Ln.put_zrN, gSetF, gSsetF, gStep, gCut32, gMin2, gMax2, gRem, gIsi, gSortK, gStr, gLenS, gUpd, gSplit, gIntS, gSortF, op_some, op_ite, Ln.get_z, Ln.put_z, Ln.get_s, Ln.put_s, pN, p2, p3, gAdd, gSubI, gMul, gDiv, gMod, gPow, gShl, gShr, gAnd, gOr, gXor, gLt, gLe, gGt, gGe, gEq, gNe, gNeg, gIsN, gNotN, gLen, gFst, gSnd, g31, g32, gCat, gRep, gCut, gId, gRg, gRev, gIn, gNin, gAll, gAny, gSum, gMax, gAbs, gIntB, gSort, gSet, gSset, gApp, gIns, gExt, gRevM, gSet31, gSet32, dIn, dNin, gDPut, gRepr, szOk, id, if_true, if_false, decide_eq_true_eq, true_and, and_true, Bool.false_eq_true, ite_true, ite_false, eq_self_iff_true, and_self, true_or, or_true, Int.reduceLT, Int.reduceLE, Int.reduceNeg, Int.reduceSub, Int.reduceAdd, Int.reduceMul, Int.reduceEq, Nat.reduceLT, Nat.reduceLeDiff, Nat.reduceAdd, Nat.reduceSub, Nat.reduceMul, List.length_cons, List.length_nil])
local macro_rules | `(tactic| walk_at "mn") => `(tactic| simp only [gPl, gPa, gPc, gSetPl, gSetPa, gDivW, gAddS, gMulS, gLenSI, gLenST, gDispT, gMulW, rx_ok, rx_bad, rx_of, rx_bind, rx_run, rx_ite, sx_nx, sx_ct, sx_bk, sx_rt, sx_so, sx_ite, sx_seq, sx_kill, sx_for, sx_ret, sx_drop, sx_set, sx_asgN, sx_if, sx_next, sx_mbk, sx_mct, rx_un, rx_op, rx_var, rx_move, rx_c, rx_opL, rx_pair, rx_pairL, rx_cons, rx_call, rx_callI, rx_bm, rx_bm0, sx_setI, rx_not, rx_and, rx_or, rx_if, rx_chain, rx_mSome, rx_mNone, rx_part, rx_sl, rx_slL, rx_rng1, rx_rng2, rx_enum, rx_lock, rx_dget2, rx_keys, rx_lc, rx_yes, rx_runD, rx_runDS, sx_raise, sx_asg, rx_unw, rx_callE, gSsetG, rp_lam, rx_out, rp_out, toL, toR, toTh, gDisp1, gRepT, gDictP, pairTh, gIsTB, gNotTB, gIsTh_int, gIsTh_bool, gIsTh_list, gIsTh_tuple, gIsTh_str, gIsTh_dict, List.map_id', rp_runD, rp_runDS, rp_runI, rp_runIS, sp_seq, sp_kill, sp_al, sp_for, sp_ret, sp_drop, sp_set, sp_asgN, sp_if, sp_next, sp_mbk, sp_mct, sp_nx, sp_ct, sp_bk, sp_rt, sp_so, sp_ite, sp_setI, rp_ok, rp_bad, rp_of, rp_bind, rp_bindN, rp_run, rp_ite, rp_un, rp_op, rp_var, rp_move, rp_c, rp_opL, rp_pair, rp_pairL, rp_cons, rp_call, rp_callI, rp_bm, rp_bm0, rp_not, rp_and, rp_or, rp_if, rp_chain, rp_mSome, rp_mNone, rp_part, rp_sl, rp_slL, rp_rng1, rp_rng2, rp_enum, rp_lock, rp_dget2, rp_keys, rp_lc, rp_yes, rp_callX, rp_callXI, rp_signs, rp_unw, sp_asg, rp_ptTwo, rp_ptSub, gLen2, Ln.get_zlS, Ln.get_zlN, Ln.put_zlS, Ln.put_zlN, Ln.get_zrS, Ln.get_zrN, Ln.put_zrS, Ln.put_zrN, gSetF, gSsetF, gStep, gCut32, gMin2, gMax2, gRem, gIsi, gSortK, gStr, gLenS, gUpd, gSplit, gIntS, gSortF, op_some, op_ite, Ln.get_z, Ln.put_z, Ln.get_s, Ln.put_s, pN, p2, p3, gAdd, gSubI, gMul, gDiv, gMod, gPow, gShl, gShr, gAnd, gOr, gXor, gLt, gLe, gGt, gGe, gEq, gNe, gNeg, gIsN, gNotN, gLen, gFst, gSnd, g31, g32, gCat, gRep, gCut, gId, gRg, gRev, gIn, gNin, gAll, gAny, gSum, gMax, gAbs, gIntB, gSort, gSet, gSset, gApp, gIns, gExt, gRevM, gSet31, gSet32, dIn, dNin, gDPut, gRepr, szOk, id, if_true, if_false, decide_eq_true_eq, true_and, and_true, Bool.false_eq_true, ite_true, ite_false, eq_self_iff_true, and_self, true_or, or_true, Int.reduceLT, Int.reduceLE, Int.reduceNeg, Int.reduceSub, Int.reduceAdd, Int.reduceMul, Int.reduceEq, Nat.reduceLT, Nat.reduceLeDiff, Nat.reduceAdd, Nat.reduceSub, Nat.reduceMul, List.length_cons, List.length_nil])

theorem atI_mod {xs : List Int} {k : Int} (h : 0 < (xs.length : Int)) : ∃ x, gIx xs (k % xs.length) = some x := by
  have h0 := Int.emod_nonneg k (show (xs.length : Int) ≠ 0 by omega)
  have h1 := Int.emod_lt_of_pos k h
  obtain ⟨j, hj⟩ : ∃ j : Nat, k % xs.length = (j : Int) := ⟨(k % xs.length).toNat, by omega⟩
  rw [hj] at h0 h1 ⊢
  exact ⟨xs[j]'(by omega), atI_nat (List.getElem?_eq_getElem _)⟩
/-- an item that is there -/
theorem ix_nat {α : Type} {xs : List α} {i : Int} (h0 : 0 ≤ i) (h1 : i < xs.length) : ∃ x ∈ xs, gIx xs i = some x := by
  obtain ⟨j, rfl⟩ : ∃ j : Nat, i = (j : Int) := ⟨i.toNat, by omega⟩
  exact ⟨xs[j]'(by omega), List.getElem_mem _, atI_nat (List.getElem?_eq_getElem _)⟩
theorem op_ix {α : Type} {xs : List α} {i : Int} {Q : α → Prop} (h0 : 0 ≤ i) (h1 : i < xs.length) (q : ∀ x ∈ xs, Q x) : OpP (gIx xs i) Q := by
  obtain ⟨x, hx, e⟩ := ix_nat h0 h1
  rw [e, op_some]
  exact q x hx
theorem mem_rng {lo hi x : Int} : x ∈ rng lo hi ↔ lo ≤ x ∧ x < hi := by
  simp only [rng, List.mem_map, List.mem_range]
  constructor
  · rintro ⟨k, hk, rfl⟩
    omega
  · rintro ⟨h1, h2⟩
    exact ⟨(x - lo).toNat, by omega, by omega⟩
theorem rng_nodup (lo hi : Int) : (rng lo hi).Nodup := by
  unfold rng
  refine List.Pairwise.map _ (R := fun x y => x ≠ y) ?_ List.nodup_range
  intro x y h e
  exact h (by omega)
theorem nodup_lin {a b : Int} (hb : 0 < b) (n : Int) : ((rng 0 n).map fun k => a + b * k).Nodup := by
  refine List.Pairwise.map _ (R := fun x y => x ≠ y) ?_ (rng_nodup 0 n)
  intro x y h e
  exact h (Int.eq_of_mul_eq_mul_left (by omega) (by omega : b * x = b * y))
theorem cut_from {α : Type} {xs : List α} {t : Int} (h0 : 0 ≤ t) : cutL xs (some t) none = xs.drop t.toNat := by
  unfold cutL
  simp only [HT.sIx]
  rw [if_neg (by omega)]
  rw [List.take_of_length_le (by rw [List.length_drop]; omega)]
  by_cases h : t.toNat ≤ xs.length
  · rw [Nat.min_eq_left h]
  · rw [Nat.min_eq_right (by omega), List.drop_length, List.drop_of_length_le (by omega)]
theorem cut_to {α : Type} {xs : List α} {t : Int} (h0 : 0 ≤ t) : cutL xs none (some t) = xs.take t.toNat := by
  unfold cutL
  simp only [HT.sIx]
  rw [if_neg (by omega), List.drop_zero, Nat.sub_zero]
  by_cases h : t.toNat ≤ xs.length
  · rw [Nat.min_eq_left h]
  · rw [Nat.min_eq_right (by omega), List.take_length, List.take_of_length_le (by omega)]
/-- within the bounds of corners -/
theorem erase_perm {α : Type} : ∀ (xs : List α) (j : Nat) (h : j < xs.length), (xs[j] :: xs.eraseIdx j).Perm xs
  | x :: xs, 0, _ => List.Perm.refl _
  | x :: xs, j + 1, h => by
    rw [List.getElem_cons_succ, List.eraseIdx_cons_succ]
    exact (List.Perm.swap _ _ _).trans ((erase_perm xs j (by simpa using h)).cons x)
theorem op_popAt {α : Type} {xs : List α} {i : Int} {Q : α × List α → Prop} (h0 : 0 ≤ i) (h1 : i < xs.length) (h2 : xs.length < 1000000) (q : ∀ x rest, (x :: rest).Perm xs → Q (x, rest)) : OpP (gPopAt xs i) Q := by
  obtain ⟨j, rfl⟩ : ∃ j : Nat, i = (j : Int) := ⟨i.toNat, by omega⟩
  unfold gPopAt
  rw [if_pos ⟨h0, by omega⟩, Int.toNat_natCast, List.getElem?_eq_getElem (by omega), Option.map_some, op_some]
  exact q _ _ (erase_perm xs j (by omega))
/-- a face: rising corners -/
abbrev Up (p : List Int) : Prop := p.Pairwise (· < ·)
theorem gIx_pc {α : Type} {d : α} {ns : List α} {c : Int} (h0 : 0 ≤ c) (h1 : c < ns.length) {Q : α → Prop} (q : Q (ns[c.toNat]?.getD d)) : OpP (gIx ns c) Q := by
  obtain ⟨j, rfl⟩ : ∃ j : Nat, c = (j : Int) := ⟨c.toNat, by omega⟩
  rw [Int.toNat_natCast] at q
  have e : ns[j]? = some (ns[j]'(by omega)) := List.getElem?_eq_getElem _
  rw [show gIx ns (j : Int) = some (ns[j]'(by omega)) from atI_nat e, op_some]
  rw [e] at q
  exact q
theorem op_setL {α : Type} {xs : List α} {i : Int} {x : α} {Q : List α → Prop} (h0 : 0 ≤ i) (h1 : i < xs.length) (q : Q (xs.set i.toNat x)) : OpP (gSetL xs i x) Q := by
  unfold gSetL ixN
  rw [if_pos h0, if_pos h1, Option.map_some, op_some]
  exact q
/-- the pen: its place, and what is left of a great cell -/
def Pn (n : Nat) (st : List Int × Int × Int) : Prop := 0 ≤ st.2.1 ∧ st.2.1 ≤ n ∧ 0 ≤ st.2.2
theorem Pn.mono {n m : Nat} {st : List Int × Int × Int} (h : Pn n st) (hm : n ≤ m) : Pn m st := ⟨h.1, by have := h.2.1; omega, h.2.2⟩
theorem q_ldraw {st : List Int × Int × Int} {m : Int} {n : Nat} (h : Pn n st) (hn : n ≤ 100000) (h0 : 0 < m) (hm2 : m < 1180591620717411303424) : RsP (m_ldraw st m) fun r st' => (0 ≤ r ∧ r < m) ∧ Pn (n + 1) st' := by
  obtain ⟨cells, at_, left⟩ := st
  obtain ⟨h1, h2, h3⟩ := h
  dsimp only at h1 h2 h3
  have fm : ∀ x : Int, 0 ≤ x % m ∧ x % m < m := fun x => ⟨Int.emod_nonneg _ (by omega), Int.emod_lt_of_pos _ h0⟩
  unfold m_ldraw M_ldraw
  walk_at "mn"
  refine iteI (fun z => ?_) fun z => ?_
  · exact ⟨h0, ⟨h0, hm2⟩, fm _, h1, by dsimp only; omega, Int.ediv_nonneg (by omega) (by omega)⟩
  refine ⟨.inl ⟨by omega, by omega⟩, ?_⟩
  refine cutP (fun e => ∃ c, e = (some (cells, at_ + 1, left), some m, none, some at_, some c, none, ())) ?_ ?_
  · walk_at "mn"
    refine iteI (fun z2 => ?_) fun z2 => ?_
    · refine op_ix h1 (by omega) fun c hc => ?_
      refine iteI (fun z3 => ?_) fun z3 => ⟨c, rfl⟩
      exact ⟨⟨h0, hm2⟩, h0, fm _, by dsimp only; omega, by dsimp only; omega, Int.ediv_nonneg (by omega) (by omega)⟩
    · refine iteI (fun z3 => ?_) fun z3 => ⟨_, rfl⟩
      obtain ⟨x, hx⟩ := atI_mod (k := at_) (xs := cells) (by omega)
      rw [hx, op_some]
      exact ⟨by omega, _, rfl⟩
  · rintro e ⟨c, rfl⟩
    walk_at "mn"
    generalize hx : (c % 2147483629 + 50021 * at_ + 7) * 48271 % 2147483587 = x
    have x0 : 0 ≤ x := by rw [← hx]; exact Int.emod_nonneg _ (by decide)
    have x1 : x < 2147483587 := by rw [← hx]; exact Int.emod_lt_of_pos _ (by decide)
    exact ⟨.inl ⟨by omega, by omega⟩, h0, fm _, by dsimp only; omega, by dsimp only; omega, h3⟩
theorem q_is_number {sh : List (List Int)} {t : Th} : RsP (m_is_number sh t) fun b _ => b = true ↔ ∃ k : Int, t = .int k ∧ 0 ≤ k ∧ k < sh.length := by
  unfold m_is_number M_is_number
  walk_at "mn"
  cases t with
  | int k =>
    refine iteI (fun _ => ?_) fun z => absurd rfl z
    refine iteI (fun _ => ?_) fun z => absurd rfl z
    rw [show asI (.int k) = some k from rfl, op_some]
    refine iteI (fun z => ?_) fun z => ?_
    · exact ⟨fun h => ⟨k, rfl, z, h⟩, fun ⟨j, e, h1, h2⟩ => by cases e; exact h2⟩
    · exact ⟨fun h => h.elim, fun ⟨j, e, h1, h2⟩ => by cases e; exact z h1⟩
  | bl b =>
    refine iteI (fun _ => ?_) fun z => ⟨fun h => h.elim, fun ⟨j, e, _⟩ => nomatch e⟩
    refine iteI (fun z => by simp [isBl] at z) fun z => ⟨fun h => h.elim, fun ⟨j, e, _⟩ => nomatch e⟩
  | _ => refine iteI (fun z => by simp [isInt] at z) fun z => ⟨fun h => h.elim, fun ⟨j, e, _⟩ => nomatch e⟩
/-- numbers, none twice -/
def Nums (n : Nat) (fs : List Int) : Prop := fs.Nodup ∧ ∀ k ∈ fs, 0 ≤ k ∧ k < n
def IsW (n : Nat) (t : Th) : Prop := ∃ f g : List Int, t = .tup [.tup (f.map .int), .tup (g.map .int)] ∧ Nums n (f ++ g)
theorem nums_len {n : Nat} {fs : List Int} (h : Nums n fs) : fs.length ≤ n := by
  have := List.Nodup.length_le_of_subset (l₂ := rng 0 n) h.1 fun k hk => mem_rng.mpr (h.2 k hk)
  rw [rng_length] at this
  omega
theorem asT_tup {t : Th} {ts : List Th} : asT t = some ts ↔ t = .tup ts := by
  cases t <;> simp [asT]
theorem int_inj : ∀ {xs ys : List Int}, xs.map Th.int = ys.map Th.int → xs = ys
  | [], [], _ => rfl
  | [], y :: ys, h => by simp at h
  | x :: xs, [], h => by simp at h
  | x :: xs, y :: ys, h => by
    simp only [List.map_cons, List.cons.injEq, Th.int.injEq] at h
    rw [h.1, int_inj h.2]
theorem not_ahead {l : List Int} {m : Nat} {k : Int} (h : l.Nodup) (hm : l[m]? = some k) : k ∉ l.take m := by
  intro hk
  obtain ⟨hlt, e⟩ := List.getElem?_eq_some_iff.mp hm
  have e2 : l = l.take m ++ l.drop m := (List.take_append_drop m l).symm
  rw [e2, List.nodup_append] at h
  refine h.2.2 k hk k ?_ rfl
  rw [List.drop_eq_getElem_cons hlt, e]
  exact List.mem_cons_self
abbrev tI (f : List Int) : Th := .tup (f.map .int)
theorem isw_item {n : Nat} {ts us : List Th} {i j : Nat} {fss : List (List Int)} {pre : List Int} {u : Th} (h : IsW n (.tup ts)) (h1 : ts.take i = fss.map tI) (h2 : ts[i]? = some (.tup us)) (h3 : us.take j = pre.map .int) (h4 : us[j]? = some u) : ∃ k : Int, u = .int k ∧ 0 ≤ k ∧ k < n ∧ k ∉ fss.flatten ++ pre := by
  obtain ⟨f, g, e, hn⟩ := h
  cases e
  have one : ∀ (l : List Int), us = l.map .int → ∃ k : Int, u = .int k ∧ l[j]? = some k ∧ pre = l.take j := fun l hl => by
    subst hl
    rw [List.getElem?_map] at h4
    cases hj : l[j]? with
    | none => rw [hj] at h4; cases h4
    | some k =>
      rw [hj] at h4
      cases h4
      refine ⟨k, rfl, rfl, ?_⟩
      rw [← List.map_take] at h3
      exact (int_inj h3).symm
  match i, h1, h2 with
  | 0, h1, h2 =>
    have e1 : fss = [] := by simpa using h1
    subst e1
    obtain ⟨k, rfl, hk, rfl⟩ := one f (by simpa using h2.symm)
    have := hn.2 k (List.mem_append_left _ (List.mem_of_getElem? hk))
    exact ⟨k, rfl, this.1, this.2, by simpa using not_ahead (List.nodup_append.mp hn.1).1 hk⟩
  | 1, h1, h2 =>
    have e1 : fss = [f] := by
      match fss, h1 with
      | [f'], h1 =>
        have : f.map Th.int = f'.map Th.int := by simpa using h1
        rw [int_inj this]
      | [], h1 => simp at h1
      | _ :: _ :: _, h1 => simp at h1
    subst e1
    obtain ⟨k, rfl, hk, rfl⟩ := one g (by simpa using h2.symm)
    have := hn.2 k (List.mem_append_right _ (List.mem_of_getElem? hk))
    refine ⟨k, rfl, this.1, this.2, ?_⟩
    have := not_ahead (m := f.length + j) (k := k) hn.1 (by rw [List.getElem?_append_right (by omega), show f.length + j - f.length = j by omega]; exact hk)
    rw [List.take_length_add_append] at this
    simpa using this
  | i + 2, h1, h2 => simp at h2
def kI (ks : List Int) : List (Int × Bool) := ks.map fun k => (k, true)
theorem kI_get {ks : List Int} {k : Int} : (dget (kI ks) k).isSome = true ↔ k ∈ ks := by
  unfold dget kI
  rw [Option.isSome_map]
  induction ks with
  | nil => simp
  | cons x ks ih =>
    rw [List.map_cons, List.find?_cons]
    by_cases h : x = k
    · simp [h]
    · simp only [h, decide_false]
      rw [ih, List.mem_cons]
      exact ⟨.inr, fun z => z.resolve_left fun e => h e.symm⟩
theorem kI_put {ks : List Int} {k : Int} (h : k ∉ ks) : dput (kI ks) k true = kI (ks ++ [k]) := by
  unfold dput
  rw [if_neg]
  · unfold kI
    rw [List.map_append]
    rfl
  · intro z
    obtain ⟨x, hx, e⟩ := List.any_eq_true.mp z
    obtain ⟨y, hy, rfl⟩ := List.mem_map.mp hx
    exact h (of_decide_eq_true e ▸ hy)
theorem q_is_wish {sh : List (List Int)} {t : Th} (hl : sh.length ≤ 100) : RsP (m_is_wish sh t) fun b _ => b = true ↔ IsW sh.length t := by
  unfold m_is_wish M_is_wish
  walk_at "mn"
  refine ifB (e' := (some sh, some t, none, none, none, ())) (¬ ∃ a b, t = .tup [a, b]) ?_ (fun z => ?_) fun z => ?_
  · walk_at "mn"
    cases t with
    | tup ts =>
      refine iteI (fun z => by simp [isTup] at z) fun _ => ?_
      rw [asT_tup.mpr rfl, op_some]
      match ts with
      | [a, b] => exact ⟨fun z => by simp at z, fun z => absurd ⟨a, b, rfl⟩ z⟩
      | [] => exact ⟨fun _ => (by rintro ⟨a, b, e⟩; cases e), fun _ => by simp⟩
      | [a] => exact ⟨fun _ => (by rintro ⟨a, b, e⟩; cases e), fun _ => by simp⟩
      | _ :: _ :: _ :: _ => exact ⟨fun _ => (by rintro ⟨a, b, e⟩; cases e), fun _ => by simp; omega⟩
    | _ => exact iteI (fun z => by simp) fun z => by simp [isTup] at z
  · walk_at "mn"
    exact ⟨fun h => h.elim, fun ⟨f, g, e, _⟩ => absurd ⟨_, _, e⟩ z⟩
  obtain ⟨a, b, rfl⟩ : ∃ a b, t = .tup [a, b] := Classical.byContradiction z
  walk_at "mn"
  refine cutP (fun e => IsW sh.length (.tup [a, b])) ?_ ?_
  rotate_left
  · intro e h
    walk_at "mn"
    exact ⟨fun _ => h, fun _ => trivial⟩
  walk_at "mn"
  rw [asT_tup.mpr rfl, op_some]
  refine loopP (fun i e => ∃ fss : List (List Int), [a, b].take i = fss.map tI ∧ Nums sh.length fss.flatten ∧ e = (some sh, some (.tup [a, b]), some (kI fss.flatten), none, none, ())) ⟨[], rfl, ⟨by simp, by simp⟩, rfl⟩ ?_ ?_
  · rintro i t e ht ⟨fss, h1, h2, rfl⟩
    walk_at "mn"
    refine iteI (fun z => ?_) fun z => ?_
    · refine ⟨fun h => h.elim, fun ⟨f, g, e, _⟩ => ?_⟩
      cases e
      match i, ht with
      | 0, ht => cases ht; simp [isTup] at z
      | 1, ht => cases ht; simp [isTup] at z
      | i + 2, ht => simp at ht
    obtain ⟨us, rfl⟩ : ∃ us, t = .tup us := by
      cases t <;> simp [isTup] at z ⊢
    rw [asT_tup.mpr rfl, op_some]
    refine loopP (fun j e => ∃ pre : List Int, us.take j = pre.map .int ∧ Nums sh.length (fss.flatten ++ pre) ∧ e = (some sh, some (.tup [a, b]), some (kI (fss.flatten ++ pre)), some (.tup us), none, ())) ⟨[], by simp, by simpa using h2, by simp⟩ ?_ ?_
    · rintro j u e hu ⟨pre, h3, h4, rfl⟩
      have hnl := nums_len h4
      walk_at "mn"
      refine ifB (e' := (some sh, some (.tup [a, b]), some (kI (fss.flatten ++ pre)), some (.tup us), some u, ())) (¬ ∃ k : Int, u = .int k ∧ 0 ≤ k ∧ k < sh.length ∧ k ∉ fss.flatten ++ pre) ?_ (fun z => ?_) fun z => ?_
      · walk_at "mn"
        refine q_is_number.imp ?_
        rintro bb _ hb
        cases bb with
        | false =>
          refine iteI (fun _ => ?_) fun z => absurd rfl z
          refine ⟨fun _ => ?_, fun _ => trivial⟩
          rintro ⟨k, e, k0, k1, _⟩
          exact nomatch (hb.mpr ⟨k, e, k0, k1⟩)
        | true =>
          refine iteI (fun z => by simp at z) fun _ => ?_
          obtain ⟨k, rfl, k0, k1⟩ := hb.mp rfl
          rw [show asI (.int k) = some k from rfl, op_some]
          refine ⟨fun h => ?_, fun h => ?_⟩
          · rintro ⟨k', e, _, _, hk⟩
            cases e
            exact hk (kI_get.mp h)
          · refine kI_get.mpr (Classical.byContradiction fun hk => h ⟨k, rfl, k0, k1, hk⟩)
      · walk_at "mn"
        exact ⟨fun h => h.elim, fun h => absurd (isw_item h h1 ht h3 hu) z⟩
      · obtain ⟨k, rfl, k0, k1, hk⟩ : ∃ k : Int, u = .int k ∧ 0 ≤ k ∧ k < sh.length ∧ k ∉ fss.flatten ++ pre := Classical.byContradiction z
        walk_at "mn"
        rw [show asI (.int k) = some k from rfl, op_some]
        rw [kI_put hk]
        refine ⟨?_, pre ++ [k], ?_, ?_, ?_⟩
        · unfold kI
          rw [List.length_map]
          omega
        · rw [List.take_succ, hu, h3, List.map_append]
          rfl
        · rw [← List.append_assoc]
          refine ⟨?_, fun x hx => ?_⟩
          · rw [List.nodup_append]
            refine ⟨h4.1, by simp, fun x hx y hy e => ?_⟩
            rw [List.mem_singleton] at hy
            exact hk (hy ▸ e ▸ hx)
          · rcases List.mem_append.mp hx with z | z
            · exact h4.2 x z
            · rw [List.mem_singleton] at z
              rw [z]
              exact ⟨k0, k1⟩
        · rw [List.append_assoc]
    · rintro e ⟨pre, h3, h4, rfl⟩
      rw [List.take_length] at h3
      walk_at "mn"
      refine ⟨fss ++ [pre], ?_, ?_, ?_⟩
      · rw [List.take_succ, ht, h1, h3, List.map_append]
        rfl
      · simpa using h4
      · simp
  · rintro e ⟨fss, h1, h2, rfl⟩
    match fss, h1 with
    | [f, g], h1 =>
      have h1 : a = tI f ∧ b = tI g := by simpa using h1
      obtain ⟨rfl, rfl⟩ := h1
      exact ⟨f, g, rfl, by simpa using h2⟩
    | [], h1 => simp at h1
    | [_], h1 => simp at h1
    | _ :: _ :: _ :: _, h1 => simp at h1

theorem q_is_wished {f g order : List Int} (hg : g.length ≤ order.length) : RsP (m_is_wished (f, g) order) fun b _ => b = (decide (order.take f.length = f) && decide (order.drop (order.length - g.length) = g)) := by
  unfold m_is_wished M_is_wished
  walk_at "mn"
  rw [cut_to (by omega), cut_from (by omega), Int.toNat_natCast, show ((order.length : Int) - (g.length : Int)).toNat = order.length - g.length by omega]
  refine iteI (fun z => ?_) fun z => ?_
  · rw [decide_eq_true z, Bool.true_and]
  · rw [decide_eq_false z, Bool.false_and]
/-- what a wish lets come -/
def al (n : Nat) (f g laid : List Int) : List Int := if n = laid.length then [] else if laid.length < f.length then [f[laid.length]?.getD 0] else if n ≤ laid.length + g.length then [g[g.length + laid.length - n]?.getD 0] else (rng 0 n).filter fun k => !decide (k ∈ laid) && !decide (k ∈ g)
theorem al_0 {n : Nat} {f g laid : List Int} (h : n = laid.length) : al n f g laid = [] := if_pos h
theorem al_1 {n : Nat} {f g laid : List Int} (h : ¬ n = laid.length) (h1 : laid.length < f.length) : al n f g laid = [f[laid.length]?.getD 0] := (if_neg h).trans (if_pos h1)
theorem al_2 {n : Nat} {f g laid : List Int} (h : ¬ n = laid.length) (h1 : ¬ laid.length < f.length) (h2 : n ≤ laid.length + g.length) : al n f g laid = [g[g.length + laid.length - n]?.getD 0] := (if_neg h).trans ((if_neg h1).trans (if_pos h2))
theorem al_3 {n : Nat} {f g laid : List Int} (h : ¬ n = laid.length) (h1 : ¬ laid.length < f.length) (h2 : ¬ n ≤ laid.length + g.length) : al n f g laid = (rng 0 n).filter fun k => !decide (k ∈ laid) && !decide (k ∈ g) := (if_neg h).trans ((if_neg h1).trans (if_neg h2))
theorem al_len {n : Nat} {f g laid : List Int} (h : 1 ≤ n) : (al n f g laid).length ≤ n := by
  unfold al
  split
  · simp
  · split
    · simpa using h
    · split
      · simpa using h
      · refine Nat.le_trans (List.length_filter_le _ _) ?_
        rw [rng_length]
        omega
theorem q_allowed {sh : List (List Int)} {f g laid : List Int} (hs : sh.length ≤ 100) (hl : laid.length ≤ sh.length) : RsP (m_allowed sh (f, g) laid) fun r _ => r = al sh.length f g laid := by
  unfold m_allowed M_allowed
  walk_at "mn"
  refine iteI (fun z => ?_) fun z => ?_
  · rw [al_0 (by omega)]
  refine iteI (fun z2 => ?_) fun z2 => ?_
  · rw [al_1 (by omega) (by omega)]
    refine gIx_pc (d := 0) (by omega) (by omega) ?_
    rw [Int.toNat_natCast]
  refine iteI (fun z3 => ?_) fun z3 => ?_
  · rw [al_2 (by omega) (by omega) (by omega)]
    refine gIx_pc (d := 0) (by omega) (by omega) ?_
    rw [show ((g.length : Int) - ((sh.length : Int) - (laid.length : Int))).toNat = g.length + laid.length - sh.length by omega]
  rw [al_3 (by omega) (by omega) (by omega)]
  refine ⟨by simp [bigI]; omega, by rw [rng_length]; omega, lcP (fun k => !decide (k ∈ laid) && !decide (k ∈ g)) id (fun k hk => ?_) ?_⟩
  · walk_at "mn"
    refine iteI (fun y => ?_) fun y => ?_
    · rw [y, Bool.true_and]
      refine ⟨rfl, ?_⟩
      split <;> trivial
    · rw [Bool.not_eq_true] at y
      rw [y, Bool.false_and]
      exact ⟨rfl, trivial⟩
  · rw [List.map_id]
theorem q_lmay {n : Nat} {f g laid : List Int} (hs : n ≤ 100) (hl : laid.length ≤ n) : RsP (m_lmay (n : Int) (f, g) laid) fun r _ => r = al n f g laid := by
  unfold m_lmay M_lmay
  walk_at "mn"
  refine iteI (fun z => ?_) fun z => ?_
  · rw [al_0 (by omega)]
  refine iteI (fun z2 => ?_) fun z2 => ?_
  · rw [al_1 (by omega) (by omega)]
    refine gIx_pc (d := 0) (by omega) (by omega) ?_
    rw [Int.toNat_natCast]
  refine iteI (fun z3 => ?_) fun z3 => ?_
  · rw [al_2 (by omega) (by omega) (by omega)]
    refine gIx_pc (d := 0) (by omega) (by omega) ?_
    rw [show ((laid.length : Int) - (n : Int) + (g.length : Int)).toNat = g.length + laid.length - n by omega]
  rw [al_3 (by omega) (by omega) (by omega)]
  refine ⟨by simp [bigI]; omega, by rw [rng_length]; omega, lcP (fun k => !decide (k ∈ laid) && !decide (k ∈ g)) id (fun k hk => ?_) ?_⟩
  · walk_at "mn"
    refine iteI (fun y => ?_) fun y => ?_
    · rw [y, Bool.true_and]
      refine ⟨rfl, ?_⟩
      split <;> trivial
    · rw [Bool.not_eq_true] at y
      rw [y, Bool.false_and]
      exact ⟨rfl, trivial⟩
  · rw [List.map_id]
theorem q_lsame {xs : List Int} (h : xs.length ≤ 1000) : RsP (m_lsame xs xs) fun b _ => b = true := by
  unfold m_lsame M_lsame
  walk_at "mn"
  refine ifB (e' := (some xs, some xs, none, ())) False ?_ (fun z => z.elim) fun _ => ?_
  · walk_at "mn"
    simp
  walk_at "mn"
  refine ⟨by omega, lcM (fun _ => true) (fun x _ => ?_) ?_⟩
  · walk_at "mn"
    simp
  · simp
theorem q_lis {b : Bool} : RsP (m_lis b b) fun r _ => r = true := by
  unfold m_lis M_lis
  walk_at "mn"
theorem q_lallowed_right {sh : List (List Int)} {f g row : List Int} (hs : sh.length ≤ 100) (h1 : 1 ≤ sh.length) (hr : row.length = sh.length) : RsP (m_lallowed_right sh (f, g) row) fun b _ => b = true := by
  unfold m_lallowed_right M_lallowed_right
  walk_at "mn"
  refine cutP (fun _ => True) ?_ (fun e _ => by walk_at "mn")
  walk_at "mn"
  refine ⟨by simp [bigI]; omega, ?_⟩
  refine loopR (n := row.length + 1) (by omega) (fun i e => e = (some sh, some (f, g), some row, none, none, none, none, none, ())) rfl ?_ fun _ _ => trivial
  rintro i e hi rfl
  have hal := al_len (n := sh.length) (f := f) (g := g) (laid := row.take i) h1
  have htl : (row.take i).length ≤ sh.length := by rw [List.length_take]; omega
  walk_at "mn"
  rw [cut_to (by omega), Int.toNat_natCast]
  refine (q_allowed hs htl).imp ?_
  rintro r _ rfl
  refine (q_lmay hs htl).imp ?_
  rintro r _ rfl
  refine ifB (e' := (some sh, some (f, g), some row, some (i : Int), some (row.take i), some (row.take i), some (al sh.length f g (row.take i)), some (al sh.length f g (row.take i)), ())) False ?_ (fun z => z.elim) fun _ => ?_
  · walk_at "mn"
    refine (q_lsame (by omega)).imp ?_
    rintro b _ rfl
    simp
  walk_at "mn"
  refine ⟨by omega, ?_⟩
  refine (q_allowed hs htl).imp ?_
  rintro r _ rfl
  refine (q_lsame (by omega)).imp ?_
  rintro b _ rfl
  simp
theorem ins_perm {α : Type} (fd : List α) (x : α) (k : Nat) : (fd.take k ++ [x] ++ fd.drop k).Perm (fd ++ [x]) := by
  rw [List.append_assoc]
  refine (List.Perm.append_left _ List.perm_append_comm).trans ?_
  rw [← List.append_assoc, List.take_append_drop]
/-- a drawn corner's number -/
def cv (r n k : Int) : Int := if r = 0 then k else if r = 1 then k - n / 2 else if r = 2 then 999999999999999999999999999999 - k else (k - n / 2) * 10000000000000000000000000000 + k
theorem zeros : ∀ j : Fin 29, (Str.ofString "1").length + (repS (Str.ofString "0") (1 + j.val)).length ≤ 1000000 ∧ (Str.ofString "1" ++ repS (Str.ofString "0") (1 + j.val)).length ≤ 640 ∧ (PySem.intText? (Str.ofString "1" ++ repS (Str.ofString "0") (1 + j.val))).isSome = true := by decide +kernel
theorem q_lturned {st : List Int × Int × Int} {some_ : List Int} {n : Nat} (h : Pn n st) (hl : some_.length ≤ 100) (hn : n ≤ 50000) : RsP (m_lturned st some_) fun r st' => r.Perm some_ ∧ Pn (n + some_.length) st' := by
  unfold m_lturned M_lturned
  walk_at "mn"
  refine cutP (fun e => ∃ (fd : List Int) (st2 : List Int × Int × Int), fd.Perm some_ ∧ Pn (n + some_.length) st2 ∧ e = (some st2, some some_, some fd, none, ())) ?_ ?_
  · walk_at "mn"
    refine loopP (fun i e => ∃ (fd : List Int) (st2 : List Int × Int × Int), fd.Perm (some_.take i) ∧ Pn (n + i) st2 ∧ e = (some st2, some some_, some fd, none, ())) ⟨[], st, by simp, h, rfl⟩ ?_ ?_
    · rintro i x e hx ⟨fd, st2, hp, h2, rfl⟩
      have hi := (List.getElem?_eq_some_iff.mp hx).1
      have hfl := hp.length_eq
      rw [List.length_take] at hfl
      walk_at "mn"
      refine (q_ldraw h2 (by omega) (by omega) (by omega)).imp ?_
      rintro b st3 ⟨⟨b0, b1⟩, h3⟩
      refine ⟨⟨by omega, b0, by omega⟩, _, st3, ?_, h3, rfl⟩
      refine (ins_perm _ _ _).trans ?_
      rw [List.take_succ, hx]
      exact hp.append_right _
    · rintro e ⟨fd, st2, hp, h2, rfl⟩
      rw [List.take_length] at hp
      exact ⟨fd, st2, hp, h2, rfl⟩
  · rintro e ⟨fd, st2, hp, h2, rfl⟩
    walk_at "mn"
    exact ⟨hp, h2⟩
theorem q_lpen {sc : List Int} : RsP (m_lpen sc) fun r _ => r = (sc, 0, 0) := by
  unfold m_lpen M_lpen
  walk_at "mn"
theorem q_lshape {st : List Int × Int × Int} {n : Nat} (h : Pn n st) (hn : n ≤ 10000) : RsP (m_lshape st) fun r st' => (1 ≤ r.length ∧ r.length ≤ 40) ∧ Pn (n + 9) st' := by
  unfold m_lshape M_lshape
  walk_at "mn"
  refine (q_ldraw h (by omega) (by omega) (by omega)).imp ?_
  rintro a st1 ⟨⟨a0, a1⟩, h1⟩
  refine (q_ldraw h1 (by omega) (by omega) (by omega)).imp ?_
  rintro b st2 ⟨⟨b0, b1⟩, h2⟩
  refine (q_ldraw h2 (by omega) (by omega) (by omega)).imp ?_
  rintro c st3 ⟨⟨c0, c1⟩, h3⟩
  refine op_ix (xs := [1 + a, 1 + b, 40]) c0 c1 fun m hm => ?_
  obtain ⟨m, rfl, m1, m2⟩ : ∃ k : Nat, m = (k : Int) ∧ 1 ≤ k ∧ k ≤ 40 := by
    simp only [List.mem_cons, List.not_mem_nil, or_false] at hm
    refine ⟨m.toNat, ?_, ?_, ?_⟩ <;> omega
  refine (q_ldraw h3 (by omega) (by omega) (by omega)).imp ?_
  rintro d st4 ⟨⟨d0, d1⟩, h4⟩
  refine cutP (fun e => ∃ s st5, Pn (n + 8) st5 ∧ e = (some st5, some (m : Int), some s, none, ())) ?_ ?_
  · walk_at "mn"
    refine (q_ldraw h4 (by omega) (by omega) (by omega)).imp ?_
    rintro d st5 ⟨_, h5⟩
    refine iteI (fun z => ?_) fun z => ⟨_, st5, h5.mono (by omega), rfl⟩
    refine (q_ldraw h5 (by omega) (by omega) (by omega)).imp ?_
    rintro z st6 ⟨⟨z0, z1⟩, h6⟩
    obtain ⟨j, rfl⟩ : ∃ j : Nat, z = (j : Int) := ⟨z.toNat, by omega⟩
    rw [show (1 + (j : Int)).toNat = 1 + j by omega]
    obtain ⟨y1, y2, y3⟩ := zeros ⟨j, by omega⟩
    refine ⟨⟨⟨by omega, by omega⟩, by decide, by decide⟩, y1, y2, ?_⟩
    obtain ⟨w, hw⟩ := Option.isSome_iff_exists.mp y3
    rw [show PySem.intText? (Str.ofString "1" ++ repS (Str.ofString "0") (1 + j)) = some w from hw, op_some]
    refine (q_ldraw h6 (by omega) (by omega) (by omega)).imp ?_
    rintro u st7 ⟨⟨u0, u1⟩, h7⟩
    refine (q_ldraw h7 (by omega) (by omega) (by omega)).imp ?_
    rintro v st8 ⟨⟨v0, v1⟩, h8⟩
    exact ⟨.inr ⟨by omega, by omega⟩, _, st8, h8, rfl⟩
  · rintro e ⟨s, st5, h5, rfl⟩
    walk_at "mn"
    refine (q_ldraw h5 (by omega) (by omega) (by omega)).imp ?_
    rintro d st6 ⟨_, h6⟩
    refine iteI (fun z => ?_) fun z => ?_
    · refine ⟨by simp [bigI]; omega, by rw [rng_length]; omega, lcM (fun k => [s + k]) (fun k _ => ?_) ?_⟩
      · walk_at "mn"
      · refine ⟨⟨by rw [List.length_map, rng_length]; omega, by rw [List.length_map, rng_length]; omega⟩, h6⟩
    · refine ⟨by simp [bigI]; omega, by rw [rng_length]; omega, lcM (fun k => [s, s + 1 + k]) (fun k _ => ?_) ?_⟩
      · walk_at "mn"
      · refine ⟨⟨by rw [List.length_map, rng_length]; omega, by rw [List.length_map, rng_length]; omega⟩, h6⟩

theorem isw_tups {N : Nat} {us vs : List Th} (h : IsW N (.tup [.tup us, .tup vs])) : ∃ f g : List Int, us = f.map .int ∧ vs = g.map .int ∧ Nums N (f ++ g) := by
  obtain ⟨f, g, e, hn⟩ := h
  cases e
  exact ⟨f, g, rfl, rfl, hn⟩
def OddN (N : Nat) (a : Th) : Prop := ∀ k : Int, a = .int k → ¬ (0 ≤ k ∧ k < N)
theorem nw_odd {N : Nat} {us vs : List Th} {a : Th} (ho : OddN N a) (h : a ∈ us ∨ a ∈ vs) : ¬ IsW N (.tup [.tup us, .tup vs]) := fun hw => by
  obtain ⟨f, g, rfl, rfl, hn⟩ := isw_tups hw
  rcases h with h | h
  · obtain ⟨k, hk, rfl⟩ := List.mem_map.mp h
    exact ho k rfl (hn.2 k (List.mem_append_left _ hk))
  · obtain ⟨k, hk, rfl⟩ := List.mem_map.mp h
    exact ho k rfl (hn.2 k (List.mem_append_right _ hk))
theorem nw_ints {N : Nat} {f g : List Int} (h : ¬ Nums N (f ++ g)) : ¬ IsW N (.tup [.tup (f.map .int), .tup (g.map .int)]) := fun hw => by
  obtain ⟨f', g', e1, e2, hn⟩ := isw_tups hw
  rw [← int_inj e1, ← int_inj e2] at hn
  exact h hn
theorem odd_mem {N : Nat} {a d : Th} {x : Int} (hx : 0 ≤ x) (h : a ∈ [Th.int (N : Int), Th.int (-1), Th.int (N + x), Th.bl true, Th.bl false, Th.non, Th.str (Str.ofString "0"), Th.tup [Th.int 0], Th.lst [Th.int 0], Th.str (Str.ofString "")]) : OddN N a := by
  simp only [List.mem_cons, List.not_mem_nil, or_false] at h
  rcases h with rfl | rfl | rfl | rfl | rfl | rfl | rfl | rfl | rfl | rfl <;> intro k e <;> cases e <;> omega
theorem q_lspoilt {st : List Int × Int × Int} {f g : List Int} {N n : Nat} (h : Pn n st) (hn : n ≤ 50000) (hN : N ≤ 100) (hw : Nums N (f ++ g)) : RsP (m_lspoilt st (f, g) (N : Int)) fun r st' => (∀ t ∈ r, ¬ IsW N t) ∧ Pn (n + 2) st' := by
  unfold m_lspoilt M_lspoilt
  walk_at "mn"
  refine (q_ldraw h (by omega) (by decide) (by decide)).imp ?_
  rintro x st1 ⟨⟨x0, x1⟩, h1⟩
  refine (q_ldraw h1 (by omega) (by decide) (by decide)).imp ?_
  rintro y st2 ⟨⟨y0, y1⟩, h2⟩
  refine op_ix y0 y1 fun a ha => ?_
  have ho : OddN N a := odd_mem (d := a) x0 ha
  have hl := nums_len hw
  rw [List.length_append] at hl
  have lf : (f.map Th.int).length = f.length := List.length_map ..
  have lg : (g.map Th.int).length = g.length := List.length_map ..
  rw [lf, lg]
  refine ⟨by omega, by omega, by omega, by omega, by simp, ?_⟩
  refine cutP (fun e => ∃ r : List Th, (∀ t ∈ r, ¬ IsW N t) ∧ e = (some st2, some (f, g), some (N : Int), some f, some g, some a, some r, none, ())) ?_ ?_
  rotate_left
  · rintro e ⟨r, hr, rfl⟩
    walk_at "mn"
    exact ⟨hr, h2⟩
  walk_at "mn"
  refine ⟨by omega, ?_⟩
  refine loopP (fun i e => ∃ r : List Th, (∀ t ∈ r, ¬ IsW N t) ∧ r.length ≤ 100 + 2 * i ∧ e = (some st2, some (f, g), some (N : Int), some f, some g, some a, some r, none, ())) ⟨_, ?_, by simp, rfl⟩ ?_ ?_
  · intro t ht
    simp only [List.cons_append, List.nil_append, List.mem_cons, List.not_mem_nil, or_false] at ht
    rcases ht with rfl | rfl | rfl | rfl | rfl | rfl | rfl | rfl | rfl | rfl | rfl | rfl | rfl | rfl | rfl | rfl | rfl | rfl | rfl | rfl
    case inr.inr.inr.inr.inr.inl => exact nw_odd (a := a) ho (.inl (by simp))
    case inr.inr.inr.inr.inr.inr.inl => exact nw_odd (a := a) ho (.inl (by simp))
    case inr.inr.inr.inr.inr.inr.inr.inl => exact nw_odd (a := a) ho (.inr (by simp))
    case inr.inr.inr.inr.inr.inr.inr.inr.inr.inl =>
      rintro ⟨f', g', e, _⟩
      rw [← List.map_append] at e
      have e' := Th.tup.inj e
      match f ++ g, e' with
      | [p, q], e' => cases e'
    all_goals (rintro ⟨f', g', e, _⟩; first | (cases e; done) | (simp at e; done))
  · rintro i k e hk ⟨r, hr, hrl, rfl⟩
    have hi := (List.getElem?_eq_some_iff.mp hk).1
    rw [List.length_append] at hi
    have hkm := List.mem_of_getElem? hk
    walk_at "mn"
    rw [lf, lg]
    refine ⟨by omega, by omega, by omega, _, ?_, ?_, rfl⟩
    · intro t ht
      rcases List.mem_append.mp ht with z | z
      · exact hr t z
      · simp only [List.mem_cons, List.not_mem_nil, or_false] at z
        rcases z with rfl | rfl
        · rw [show f.map Th.int ++ [Th.int k] = (f ++ [k]).map Th.int by simp]
          refine nw_ints fun hh => ?_
          have := hh.1
          rw [List.append_assoc, List.nodup_append] at this
          rcases List.mem_append.mp hkm with z | z
          · exact this.2.2 k z k (by simp) rfl
          · have h2 := this.2.1
            rw [List.singleton_append, List.nodup_cons] at h2
            exact h2.1 z
        · rw [show [Th.int k] ++ g.map Th.int = ([k] ++ g).map Th.int by simp]
          refine nw_ints fun hh => ?_
          have := hh.1
          rw [List.nodup_append] at this
          rcases List.mem_append.mp hkm with z | z
          · exact this.2.2 k z k (by simp) rfl
          · have h2 := this.2.1
            rw [List.singleton_append, List.nodup_cons] at h2
            exact h2.1 z
    · rw [List.length_append]
      simp
      omega
  · rintro e ⟨r, hr, hrl, rfl⟩
    exact ⟨r, hr, rfl⟩

theorem seqP {ε ρ : Type} {e : ε} {N C B : ε → Prop} {T : ρ → ε → Prop} {m n : ε → So ε ρ} (Mid : ε → Prop) (h1 : SoP (m e) Mid C B T) (h2 : ∀ e1, Mid e1 → SoP (n e1) N C B T) : SoP (mSeq m n e) N C B T := cutP Mid h1 h2
theorem law_true (ns : List Int) : RsP (m_law ns) fun b _ => b = true := by
  unfold m_law M_law
  simp only [rp_runD, rp_runDS]
  refine seqP (fun e => e = (some ns, some (ns, 0, 0), none, none, none, none, none, none, none, none, none, none, none, none, ())) ?_ ?_
  · walk_at "mn"
    refine q_lpen.imp ?_
    rintro r _ rfl
    rfl
  rintro e rfl
  have h0 : Pn 0 (ns, (0 : Int), (0 : Int)) := ⟨Int.le_refl _, Int.le_refl _, Int.le_refl _⟩
  refine seqP (fun e => e = (some ns, some (ns, 0, 0), none, none, none, none, none, none, none, none, none, none, none, none, ())) ?_ ?_
  · refine ifB (e' := (some ns, some (ns, 0, 0), none, none, none, none, none, none, none, none, none, none, none, none, ())) False ?_ (fun z => z.elim) fun _ => ?_
    · walk_at "mn"
      simp
    · walk_at "mn"
  rintro e rfl
  refine seqP (fun e => ∃ sh st, (1 ≤ sh.length ∧ sh.length ≤ 40) ∧ Pn 9 st ∧ e = (some ns, some st, some sh, none, none, none, none, none, none, none, none, none, none, none, ())) ?_ ?_
  · walk_at "mn"
    refine (q_lshape h0 (by omega)).imp ?_
    rintro sh st ⟨hs, h1⟩
    exact ⟨sh, st, hs, h1, rfl⟩
  rintro e ⟨sh, st, ⟨s1, s2⟩, h1, rfl⟩
  refine seqP (fun e => e = (some ns, some st, some sh, some (sh.length : Int), none, none, none, none, none, none, none, none, none, none, ())) ?_ ?_
  · walk_at "mn"
  rintro e rfl
  refine seqP (fun e => ∃ row st, row.Perm (rng 0 sh.length) ∧ Pn (9 + sh.length) st ∧ e = (some ns, some st, some sh, some (sh.length : Int), some row, none, none, none, none, none, none, none, none, none, ())) ?_ ?_
  · walk_at "mn"
    refine ⟨⟨by omega, by omega⟩, ?_⟩
    refine (q_lturned h1 (by rw [rng_length]; omega) (by omega)).imp ?_
    rintro r st' ⟨hp, h2⟩
    rw [rng_length] at h2
    exact ⟨r, st', hp, h2.mono (by omega), rfl⟩
  rintro e ⟨row, st2, hrow, h2, rfl⟩
  have hrl : row.length = sh.length := by rw [hrow.length_eq, rng_length]; omega
  refine seqP (fun e => ∃ (c : Nat) (st : List Int × Int × Int), c ≤ sh.length ∧ Pn (11 + sh.length) st ∧ e = (some ns, some st, some sh, some (sh.length : Int), some row, some (c : Int), none, none, none, none, none, none, none, none, ())) ?_ ?_
  · walk_at "mn"
    refine (q_ldraw h2 (by omega) (by omega) (by omega)).imp ?_
    rintro a st3 ⟨⟨a0, a1⟩, h3⟩
    refine (q_ldraw h3 (by omega) (by omega) (by omega)).imp ?_
    rintro b st4 ⟨⟨b0, b1⟩, h4⟩
    refine op_ix b0 b1 fun c hc => ?_
    simp only [List.mem_cons, List.not_mem_nil, or_false] at hc
    refine ⟨c.toNat, st4, by omega, h4.mono (by omega), ?_⟩
    rw [Int.toNat_of_nonneg (by omega)]
  rintro e ⟨c, st3, hc, h3, rfl⟩
  refine seqP (fun e => ∃ (d : Nat) (st : List Int × Int × Int), c + d ≤ sh.length ∧ Pn (13 + sh.length) st ∧ e = (some ns, some st, some sh, some (sh.length : Int), some row, some (c : Int), some (d : Int), none, none, none, none, none, none, none, ())) ?_ ?_
  · walk_at "mn"
    refine (q_ldraw h3 (by omega) (by omega) (by omega)).imp ?_
    rintro a st3 ⟨⟨a0, a1⟩, h3⟩
    refine (q_ldraw h3 (by omega) (by omega) (by omega)).imp ?_
    rintro b st4 ⟨⟨b0, b1⟩, h4⟩
    refine op_ix b0 b1 fun x hx => ?_
    simp only [List.mem_cons, List.not_mem_nil, or_false] at hx
    refine ⟨x.toNat, st4, by omega, h4.mono (by omega), ?_⟩
    rw [Int.toNat_of_nonneg (by omega)]
  rintro e ⟨d, st4, hd, h4, rfl⟩
  have c1 : cutL row none (some (c : Int)) = row.take c := by rw [cut_to (by omega), Int.toNat_natCast]
  have c2 : cutL row (some ((sh.length : Int) - (d : Int))) none = row.drop (sh.length - d) := by rw [cut_from (by omega), show ((sh.length : Int) - (d : Int)).toNat = sh.length - d by omega]
  generalize hf : row.take c = f at *
  generalize hg : row.drop (sh.length - d) = g at *
  have hfl : f.length = c := by rw [← hf, List.length_take]; omega
  have hgl : g.length = d := by rw [← hg, List.length_drop]; omega
  refine seqP (fun e => e = (some ns, some st4, some sh, some (sh.length : Int), some row, some (c : Int), some (d : Int), some [f, g], none, none, none, none, none, none, ())) ?_ ?_
  · walk_at "mn"
    rw [c1, c2]
  rintro e rfl
  have hrn : row.Nodup := hrow.nodup_iff.mpr (rng_nodup _ _)
  have hrm : ∀ k ∈ row, 0 ≤ k ∧ k < sh.length := fun k hk => mem_rng.mp (hrow.mem_iff.mp hk)
  have nums : Nums sh.length (f ++ g) := by
    have sub : (f ++ g).Sublist row := by
      rw [← hf, ← hg]
      have e : row = row.take c ++ row.drop c := (List.take_append_drop c row).symm
      conv => rhs; rw [e]
      refine List.Sublist.append (List.Sublist.refl _) ?_
      rw [show sh.length - d = c + (sh.length - d - c) by omega, ← List.drop_drop]
      exact List.drop_sublist _ _
    exact ⟨hrn.sublist sub, fun k hk => hrm k (sub.subset hk)⟩
  have nums2 : Nums sh.length (g ++ f) := ⟨(List.perm_append_comm.nodup_iff).mp nums.1, fun k hk => nums.2 k (List.perm_append_comm.mem_iff.mp hk)⟩
  have tw : gTwo [f, g] = some (f, g) := rfl
  refine cutP (fun e => e = (some ns, some st4, some sh, some (sh.length : Int), some row, some (c : Int), some (d : Int), some [f, g], none, none, none, none, none, none, ())) ?_ ?_
  · walk_at "mn"
    rw [tw, op_some, show gIx [f, g] 1 = some g from rfl, op_some, show gIx [f, g] 0 = some f from rfl, op_some]
    refine loopP (fun i e => e = (some ns, some st4, some sh, some (sh.length : Int), some row, some (c : Int), some (d : Int), some [f, g], none, none, none, none, none, none, ())) rfl ?_ (by rintro e rfl; rfl)
    rintro i w e hw rfl
    have hwm := List.mem_of_getElem? hw
    have hisw : IsW sh.length (.tup [.tup (w.1.map .int), .tup (w.2.map .int)]) := by
      simp only [List.mem_cons, List.not_mem_nil, or_false] at hwm
      rcases hwm with rfl | rfl | rfl
      · exact ⟨f, g, rfl, nums⟩
      · exact ⟨[], [], rfl, by simp, by simp⟩
      · exact ⟨g, f, rfl, nums2⟩
    walk_at "mn"
    refine (q_is_wish (by omega)).imp ?_
    rintro b _ hb
    rw [hb.mpr hisw]
    refine q_lis.imp ?_
    rintro b _ rfl
    simp
  rintro e rfl
  refine cutP (fun e => ∃ st, Pn (15 + sh.length) st ∧ e = (some ns, some st, some sh, some (sh.length : Int), some row, some (c : Int), some (d : Int), some [f, g], none, none, none, none, none, none, ())) ?_ ?_
  · walk_at "mn"
    rw [tw, op_some]
    refine (q_lspoilt h4 (by omega) (by omega) nums).imp ?_
    rintro r st5 ⟨hr, h5⟩
    refine loopP (fun i e => e = (some ns, some st5, some sh, some (sh.length : Int), some row, some (c : Int), some (d : Int), some [f, g], none, none, none, none, none, none, ())) rfl ?_ (by rintro e rfl; exact ⟨st5, h5.mono (by omega), rfl⟩)
    rintro i t e ht rfl
    have htm := List.mem_of_getElem? ht
    walk_at "mn"
    refine (q_is_wish (by omega)).imp ?_
    rintro b _ hb
    have hbf : b = false := by
      cases b with
      | false => rfl
      | true => exact absurd (hb.mp rfl) (hr t htm)
    subst hbf
    refine q_lis.imp ?_
    rintro b _ rfl
    simp
  rintro e ⟨st5, h5, rfl⟩
  refine seqP (fun e => ∃ (x : Int) (st : List Int × Int × Int), (0 ≤ x ∧ x < sh.length) ∧ Pn (16 + sh.length) st ∧ e = (some ns, some st, some sh, some (sh.length : Int), some row, some (c : Int), some (d : Int), some [f, g], none, none, some x, none, none, none, ())) ?_ ?_
  · walk_at "mn"
    refine (q_ldraw h5 (by omega) (by omega) (by omega)).imp ?_
    rintro x st6 ⟨hx, h6⟩
    exact ⟨x, st6, hx, h6.mono (by omega), rfl⟩
  rintro e ⟨x, st6, ⟨x0, x1⟩, h6, rfl⟩
  refine seqP (fun e => ∃ (y : Int) (st : List Int × Int × Int), (0 ≤ y ∧ y < sh.length) ∧ Pn (17 + sh.length) st ∧ e = (some ns, some st, some sh, some (sh.length : Int), some row, some (c : Int), some (d : Int), some [f, g], none, none, some x, some y, none, none, ())) ?_ ?_
  · walk_at "mn"
    refine (q_ldraw h6 (by omega) (by omega) (by omega)).imp ?_
    rintro x st6 ⟨hx, h6⟩
    exact ⟨x, st6, hx, h6.mono (by omega), rfl⟩
  rintro e ⟨y, st7, ⟨y0, y1⟩, h7, rfl⟩
  refine seqP (fun e => e = (some ns, some st7, some sh, some (sh.length : Int), some row, some (c : Int), some (d : Int), some [f, g], none, none, some x, some y, some row, none, ())) ?_ ?_
  · walk_at "mn"
  rintro e rfl
  refine seqP (fun e => ∃ ch : List Int, ch.length = sh.length ∧ e = (some ns, some st7, some sh, some (sh.length : Int), some row, some (c : Int), some (d : Int), some [f, g], none, none, some x, some y, some ch, none, ())) ?_ ?_
  · walk_at "mn"
    refine op_ix y0 (by omega) fun k hk => ?_
    refine op_setL x0 (by omega) ?_
    exact ⟨_, by rw [List.length_set]; exact hrl, rfl⟩
  rintro e ⟨ch, hch, rfl⟩
  refine seqP (fun e => ∃ ch : List Int, ch.length = sh.length ∧ e = (some ns, some st7, some sh, some (sh.length : Int), some row, some (c : Int), some (d : Int), some [f, g], none, none, some x, some y, some ch, none, ())) ?_ ?_
  · walk_at "mn"
    refine op_ix x0 (by omega) fun k hk => ?_
    refine op_setL y0 (by omega) ?_
    exact ⟨_, by rw [List.length_set]; exact hch, rfl⟩
  clear hch
  rintro e ⟨ch, hch, rfl⟩
  have c3 : cutL ch none (some (c : Int)) = ch.take c := by rw [cut_to (by omega), Int.toNat_natCast]
  have c4 : cutL ch (some ((sh.length : Int) - (d : Int))) none = ch.drop (sh.length - d) := by rw [cut_from (by omega), show ((sh.length : Int) - (d : Int)).toNat = sh.length - d by omega]
  refine seqP (fun e => e = (some ns, some st7, some sh, some (sh.length : Int), some row, some (c : Int), some (d : Int), some [f, g], none, none, some x, some y, some ch, some (decide (ch.take c = f) && decide (ch.drop (sh.length - d) = g)), ())) ?_ ?_
  · walk_at "mn"
    rw [c1, c2, c3, c4]
    refine iteI (fun z => ?_) fun z => ?_
    · rw [decide_eq_true z, Bool.true_and]
    · rw [decide_eq_false z, Bool.false_and]
  rintro e rfl
  refine seqP (fun e => e = (some ns, some st7, some sh, some (sh.length : Int), some row, some (c : Int), some (d : Int), some [f, g], none, none, some x, some y, some ch, some (decide (ch.take c = f) && decide (ch.drop (sh.length - d) = g)), ())) ?_ ?_
  · refine ifB (e' := (some ns, some st7, some sh, some (sh.length : Int), some row, some (c : Int), some (d : Int), some [f, g], none, none, some x, some y, some ch, some (decide (ch.take c = f) && decide (ch.drop (sh.length - d) = g)), ())) False ?_ (fun z => z.elim) fun _ => ?_
    · walk_at "mn"
      rw [tw, op_some]
      refine (q_is_wished (f := f) (g := g) (order := row) (by omega)).imp ?_
      rintro b _ rfl
      rw [hfl, hgl, hrl, hf, hg, decide_eq_true rfl, decide_eq_true rfl]
      refine q_lis.imp ?_
      rintro b _ rfl
      simp only [Bool.not_true, if_false, Bool.false_eq_true]
      rw [op_some]
      refine (q_is_wished (f := f) (g := g) (order := ch) (by omega)).imp ?_
      rintro b _ rfl
      rw [hfl, hgl, hch]
      refine q_lis.imp ?_
      rintro b _ rfl
      simp
    · walk_at "mn"
  rintro e rfl
  walk_at "mn"
  refine (q_is_wished (f := []) (g := []) (order := ch) (by simp)).imp ?_
  rintro b _ rfl
  have e0 : (decide (ch.take ([] : List Int).length = []) && decide (ch.drop (ch.length - ([] : List Int).length) = [])) = true := by simp
  rw [e0]
  refine q_lis.imp ?_
  rintro b _ rfl
  simp only [Bool.not_true, if_false, Bool.false_eq_true]
  rw [tw, op_some]
  refine (q_lallowed_right (by omega) s1 hrl).imp ?_
  rintro b _ rfl
  simp only [if_true]
  exact q_lallowed_right (by omega) s1 hch
--@mlaw
/-! ## the text by places -/
def topS (i : Nat) : Stmt := PySem.Challenge.pw_wholesides_k19_wishes.main.body.getD i (.Pass ⟨0, 0, 0, 0⟩)
structure Tx (K : PySem.W.Frag) (mg : Str → Option Value) : Prop where
  k_NO_WISH : ∃ a, mg "NO_WISH" = some (.ref a) ∧ KW K a
  b_int : mg "int" = none
  b_isinstance : mg "isinstance" = none
  b_bool : mg "bool" = none
  b_len : mg "len" = none
  b_tuple : mg "tuple" = none
  b_range : mg "range" = none
  b_abs : mg "abs" = none
  b_list : mg "list" = none
  b_all : mg "all" = none
  b_min : mg "min" = none
section
variable {P : Program} {w : World} {K : PySem.W.Frag} {mg : Str → Option Value} {base : Heap}
abbrev s_is_number : Stmt := topS 2
abbrev N_is_number : List Str := ["shape", "thing"]
theorem sc_is_number : FnScope N_is_number ["shape", "thing"] (defScope s_is_number) := ⟨rfl, rfl, rfl, by decide +kernel, rfl, by decide +kernel, by decide +kernel⟩
theorem ok_is_number {f : Addr} {fd : FuncData} (F : Fun K "is_number" "is_number" s_is_number f fd) (T : Tx K mg) : FnOk P w K mg base CX0 1 f fd ["shape", "thing"] (sp_is_number K) := by
  have sc := sc_is_number
  refine F.ok sc (len_is_number K) (fun cdv A outer s H vs Q E hr h => ⟨t_is_number K, ?_, rd_is_number h⟩)
  exact (pss_one (ps_ret (pe_and (pe_callB call_isi (by rfl) T.b_isinstance (by decide +kernel) (pa_cons (pv 1) (pa_cons (pe_bltn (v := .ty "int") (u := .type "int") (by rfl) T.b_int (by decide +kernel) rfl) pa_nil))) (pe_and (pe_not (pe_callB call_isi (by rfl) T.b_isinstance (by decide +kernel) (pa_cons (pv 1) (pa_cons (pe_bltn (v := .ty "bool") (u := .type "bool") (by rfl) T.b_bool (by decide +kernel) rfl) pa_nil)))) (pe_one (pe_chain o_le o_lt pe_int (pv 1) (pe_callB cr_len (by rfl) T.b_len (by decide +kernel) (pa_cons (pv 0) pa_nil))))))))

abbrev s_is_wish : Stmt := topS 3
abbrev N_is_wish : List Str := ["shape", "thing", "told", "part", "k"]
theorem sc_is_wish : FnScope N_is_wish ["shape", "thing"] (defScope s_is_wish) := ⟨rfl, rfl, rfl, by decide +kernel, rfl, by decide +kernel, by decide +kernel⟩
theorem ok_is_wish {f : Addr} {fd : FuncData} (F : Fun K "is_wish" "is_wish" s_is_wish f fd) (T : Tx K mg) (h_is_number : Has P w K mg base "is_number" ["shape", "thing"] 1 (sp_is_number K)) : FnOk P w K mg base CX0 2 f fd ["shape", "thing"] (sp_is_wish K) := by
  have sc := sc_is_wish
  refine F.ok sc (len_is_wish K) (fun cdv A outer s H vs Q E hr h => ⟨t_is_wish K, ?_, rd_is_wish h⟩)
  exact (pss_cons (ps_if (PW.pt (pw_or (pt_not (pt_val (pe_callB call_isi (by rfl) T.b_isinstance (by decide +kernel) (pa_cons (pv 1) (pa_cons (pe_bltn (v := .ty "tuple") (u := .type "tuple") (by rfl) T.b_tuple (by decide +kernel) rfl) pa_nil))))) (pw_or1 (pt_cmpR op_ne (pe_callB cr_len (by rfl) T.b_len (by decide +kernel) (pa_cons (pv 1) pa_nil)) pe_int (nomark _))))) (pss_one (ps_ret pe_bl)) pss_nil)
      (pss_cons (ps_set (i := 2) sc.nd rfl (.inl rfl) pe_dnewK)
      (pss_cons (ps_for PassesOwn.never rfl (pi_tup (pv 1)) (pg_name (i := 3) sc.nd rfl (.inl rfl))
      (pss_cons (ps_if (pt_not (pt_val (pe_callB call_isi (by rfl) T.b_isinstance (by decide +kernel) (pa_cons (pv 3) (pa_cons (pe_bltn (v := .ty "tuple") (u := .type "tuple") (by rfl) T.b_tuple (by decide +kernel) rfl) pa_nil))))) (pss_one (ps_ret pe_bl)) pss_nil)
      (pss_one (ps_for PassesOwn.never rfl (pi_tup (pv 3)) (pg_name (i := 4) sc.nd rfl (.inl rfl))
      (pss_cons (ps_if (PW.pt (pw_or (pt_not (pt_val (pe_h h_is_number (hr.mono (by decide)) (by rfl) (pa_cons (pv 0) (pa_cons (pv 4) pa_nil))))) (pw_or1 (pt_cmp (pc_din (units1 hr) (pv 4) (pv 2)))))) (pss_one (ps_ret pe_bl)) pss_nil)
      (pss_one (ps_asg pe_bl (pg_sub (pv 2) (pv 4) (set_dict (units1 hr))))))))))
      (pss_one (ps_ret pe_bl)))))

abbrev s_is_wished : Stmt := topS 4
abbrev N_is_wished : List Str := ["wish", "order", "start", "finish"]
theorem sc_is_wished : FnScope N_is_wished ["wish", "order"] (defScope s_is_wished) := ⟨rfl, rfl, rfl, by decide +kernel, rfl, by decide +kernel, by decide +kernel⟩
theorem ok_is_wished {f : Addr} {fd : FuncData} (F : Fun K "is_wished" "is_wished" s_is_wished f fd) (T : Tx K mg) : FnOk P w K mg base CX0 1 f fd ["wish", "order"] (sp_is_wished K) := by
  have sc := sc_is_wished
  refine F.ok sc (len_is_wished K) (fun cdv A outer s H vs Q E hr h => ⟨t_is_wished K, ?_, rd_is_wished h⟩)
  exact (pss_cons (ps_asg (pv 0) (pg_tup rfl (pgs_cons (pg_name (i := 2) sc.nd rfl (.inl rfl)) (pgs_cons (pg_name (i := 3) sc.nd rfl (.inl rfl)) pgs_nil))))
      (pss_one (ps_ret (pe_and (pe_cmpR (op_eqD hr.units) (pe_callTy cr_tuple (by rfl) T.b_tuple (by decide +kernel) (pa_cons (pe_slice sl_list (pv 1) po_none (po_some (pe_callB cr_len (by rfl) T.b_len (by decide +kernel) (pa_cons (pv 2) pa_nil)))) pa_nil)) (pv 2) (nomark _)) (pe_one (pe_cmpR (op_eqD hr.units) (pe_callTy cr_tuple (by rfl) T.b_tuple (by decide +kernel) (pa_cons (pe_slice sl_list (pv 1) (po_some (pe_op o_sub (pe_callB cr_len (by rfl) T.b_len (by decide +kernel) (pa_cons (pv 1) pa_nil)) (pe_callB cr_len (by rfl) T.b_len (by decide +kernel) (pa_cons (pv 3) pa_nil)))) po_none) pa_nil)) (pv 3) (nomark _)))))))

abbrev s_allowed : Stmt := topS 5
abbrev N_allowed : List Str := ["shape", "wish", "laid", "start", "finish", "to_come", "k"]
theorem sc_allowed : FnScope N_allowed ["shape", "wish", "laid"] (defScope s_allowed) := ⟨rfl, rfl, rfl, by decide +kernel, rfl, by decide +kernel, by decide +kernel⟩
theorem ok_allowed {f : Addr} {fd : FuncData} (F : Fun K "allowed" "allowed" s_allowed f fd) (T : Tx K mg) : FnOk P w K mg base CX0 1 f fd ["shape", "wish", "laid"] (sp_allowed K) := by
  have sc := sc_allowed
  refine F.ok sc (len_allowed K) (fun cdv A outer s H vs Q E hr h => ⟨t_allowed K, ?_, rd_allowed h⟩)
  exact (pss_cons (ps_asg (pv 1) (pg_tup rfl (pgs_cons (pg_name (i := 3) sc.nd rfl (.inl rfl)) (pgs_cons (pg_name (i := 4) sc.nd rfl (.inr rfl)) pgs_nil))))
      (pss_cons (ps_set (i := 5) sc.nd rfl (.inl rfl) (pe_op o_sub (pe_callB cr_len (by rfl) T.b_len (by decide +kernel) (pa_cons (pv 0) pa_nil)) (pe_callB cr_len (by rfl) T.b_len (by decide +kernel) (pa_cons (pv 2) pa_nil))))
      (pss_cons (ps_if (pt_cmpR op_eq (pv 5) pe_int (nomark _)) (pss_one (ps_ret (pe_lst pa_nil))) pss_nil)
      (pss_cons (ps_if (pt_cmpR o_lt (pe_callB cr_len (by rfl) T.b_len (by decide +kernel) (pa_cons (pv 2) pa_nil)) (pe_callB cr_len (by rfl) T.b_len (by decide +kernel) (pa_cons (pv 3) pa_nil)) (nomark _)) (pss_one (ps_ret (pe_lst (pa_cons (pe_ix ix_tup (pv 3) (pe_callB cr_len (by rfl) T.b_len (by decide +kernel) (pa_cons (pv 2) pa_nil)) (fun _ _ => rfl)) pa_nil)))) pss_nil)
      (pss_cons (ps_if (pt_cmpR o_le (pv 5) (pe_callB cr_len (by rfl) T.b_len (by decide +kernel) (pa_cons (pv 4) pa_nil)) (nomark _)) (pss_one (ps_ret (pe_lst (pa_cons (pe_ix ix_tup (pv 4) (pe_op o_sub (pe_callB cr_len (by rfl) T.b_len (by decide +kernel) (pa_cons (pv 4) pa_nil)) (pv 5)) (fun _ _ => rfl)) pa_nil)))) pss_nil)
      (pss_one (ps_ret (pe_lc (own := [("k", 6)]) (by rfl) sc.nd (pi_range1 (by rfl) T.b_range (pa_cons (pe_callB cr_len (by rfl) T.b_len (by decide +kernel) (pa_cons (pv 0) pa_nil)) pa_nil)) (blkOk_by (own := [("k", 6)]) (N := N_allowed) (sc := defScope s_allowed) (by decide +kernel)) (fun _ _ _ _ _ => (pg_name (i := 6) sc.nd rfl (by first | exact .inl rfl | exact .inr rfl))) (fun _ _ _ _ _ => (pts_one (PW.pt (pw_and (pt_cmpR op_notIn_seq (pv 6) (pv 2) (by rfl)) (pw_and1 (pt_cmpR op_notIn_seq (pv 6) (pv 4) (by rfl))))))) (fun _ _ _ _ _ => (pv 6))))))))))

abbrev s_lpen : Stmt := topS 7
abbrev N_lpen : List Str := ["_law_script"]
theorem sc_lpen : FnScope N_lpen ["_law_script"] (defScope s_lpen) := ⟨rfl, rfl, rfl, by decide +kernel, rfl, by decide +kernel, by decide +kernel⟩
theorem ok_lpen {f : Addr} {fd : FuncData} (F : Fun K "_law_pen" "_law_pen" s_lpen f fd) (T : Tx K mg) : FnOk P w K mg base CX0 1 f fd ["_law_script"] (sp_lpen K) := by
  have sc := sc_lpen
  refine F.ok sc (len_lpen K) (fun cdv A outer s H vs Q E hr h => ⟨t_lpen K, ?_, rd_lpen h⟩)
  exact (pss_one (ps_ret (pe_disp (pps_cons pe_str (pv 0) (pps_cons pe_str pe_int (pps_cons pe_str pe_int pps_nil))) rfl rfl (by simp) (Nat.le_of_ble_eq_true rfl))))

abbrev s_ldraw : Stmt := topS 8
abbrev N_ldraw : List Str := ["_law_pen_here", "_law_many", "_law_found", "_law_at", "_law_cell", "_law_number"]
theorem sc_ldraw : FnScope N_ldraw ["_law_pen_here", "_law_many"] (defScope s_ldraw) := ⟨rfl, rfl, rfl, by decide +kernel, rfl, by decide +kernel, by decide +kernel⟩
theorem ok_ldraw {f : Addr} {fd : FuncData} (F : Fun K "_law_draw" "_law_draw" s_ldraw f fd) (T : Tx K mg) : FnOk P w K mg base CX0 1 f fd ["_law_pen_here", "_law_many"] (sp_ldraw K) := by
  have sc := sc_ldraw
  refine F.ok sc (len_ldraw K) (fun cdv A outer s H vs Q E hr h => ⟨t_ldraw K, ?_, rd_ldraw h⟩)
  exact (pss_cons (ps_if (pt_cmpR o_gt (pe_dget (units1 hr) (pv 0) pe_str (fun _ _ => rfl)) pe_int (nomark _)) (pss_cons (ps_set (i := 2) sc.nd rfl (.inl rfl) (pe_op o_mod (pe_dget (units1 hr) (pv 0) pe_str (fun _ _ => rfl)) (pv 1)))
      (pss_cons (ps_asg (pe_op o_divW (pe_dget (units1 hr) (pv 0) pe_str (fun _ _ => rfl)) (pv 1)) (pg_sub (pv 0) pe_str (set_dict (units1 hr))))
      (pss_one (ps_ret (pv 2))))) pss_nil)
      (pss_cons (ps_set (i := 3) sc.nd rfl (.inl rfl) (pe_dget (units1 hr) (pv 0) pe_str (fun _ _ => rfl)))
      (pss_cons (ps_asg (pe_op o_add (pv 3) pe_int) (pg_sub (pv 0) pe_str (set_dict (units1 hr))))
      (pss_cons (ps_set (i := 4) sc.nd rfl (.inl rfl) (pe_op o_add (pe_op o_mul (pe_op o_mul pe_int (pv 3)) (pv 3)) pe_int))
      (pss_cut (ps_if (pt_cmpR o_lt (pv 3) (pe_callB cr_len (by rfl) T.b_len (by decide +kernel) (pa_cons (pe_dget (units1 hr) (pv 0) pe_str (fun _ _ => rfl)) pa_nil)) (nomark _)) (pss_cons (ps_set (i := 4) sc.nd rfl (.inl rfl) (pe_ix ix_list (pe_dget (units1 hr) (pv 0) pe_str (fun _ _ => rfl)) (pv 3) (fun _ _ => rfl)))
      (pss_one (ps_if (pt_cmpR o_ge (pe_callB cr_abs (by rfl) T.b_abs (by decide +kernel) (pa_cons (pv 4) pa_nil)) (pe_op o_pow pe_int pe_int) (nomark _)) (pss_cons (ps_asg (pe_op o_divW (pe_callB cr_abs (by rfl) T.b_abs (by decide +kernel) (pa_cons (pv 4) pa_nil)) (pv 1)) (pg_sub (pv 0) pe_str (set_dict (units1 hr))))
      (pss_one (ps_ret (pe_op o_mod (pe_callB cr_abs (by rfl) T.b_abs (by decide +kernel) (pa_cons (pv 4) pa_nil)) (pv 1))))) pss_nil))) (pss_one (ps_if (pt_cmpR o_gt (pe_callB cr_len (by rfl) T.b_len (by decide +kernel) (pa_cons (pe_dget (units1 hr) (pv 0) pe_str (fun _ _ => rfl)) pa_nil)) pe_int (nomark _)) (pss_one (ps_set (i := 4) sc.nd rfl (.inl rfl) (pe_op o_add (pe_op o_mod (pe_ix ix_list (pe_dget (units1 hr) (pv 0) pe_str (fun _ _ => rfl)) (pe_op o_mod (pv 3) (pe_callB cr_len (by rfl) T.b_len (by decide +kernel) (pa_cons (pe_dget (units1 hr) (pv 0) pe_str (fun _ _ => rfl)) pa_nil))) (fun _ _ => rfl)) (pe_op o_pow pe_int pe_int)) (pe_op o_mul pe_int (pv 3))))) pss_nil)))
      (pss_cons (ps_set (i := 5) sc.nd rfl (.inl rfl) (pe_op o_mod (pe_op o_mul (pe_op o_add (pe_op o_add (pe_op o_mod (pv 4) pe_int) (pe_op o_mul pe_int (pv 3))) pe_int) pe_int) pe_int))
      (pss_cons (ps_set (i := 5) sc.nd rfl (.inl rfl) (pe_op o_mod (pe_op o_add (pe_op o_add (pe_op o_mul (pv 5) (pv 5)) (pe_op o_mul pe_int (pv 5))) (pv 3)) pe_int))
      (pss_one (ps_ret (pe_op o_mod (pe_op o_divW (pv 5) pe_int) (pv 1)))))))))))

abbrev s_lshape : Stmt := topS 9
abbrev N_lshape : List Str := ["_law_pen_here", "_law_many", "_law_start", "_law_k"]
theorem sc_lshape : FnScope N_lshape ["_law_pen_here"] (defScope s_lshape) := ⟨rfl, rfl, rfl, by decide +kernel, rfl, by decide +kernel, by decide +kernel⟩
theorem ok_lshape {f : Addr} {fd : FuncData} (F : Fun K "_law_shape" "_law_shape" s_lshape f fd) (T : Tx K mg) (h_ldraw : Has P w K mg base "_law_draw" ["_law_pen_here", "_law_many"] 1 (sp_ldraw K)) : FnOk P w K mg base CX0 2 f fd ["_law_pen_here"] (sp_lshape K) := by
  have sc := sc_lshape
  refine F.ok sc (len_lshape K) (fun cdv A outer s H vs Q E hr h => ⟨t_lshape K, ?_, rd_lshape h⟩)
  exact (pss_cons (ps_set (i := 1) sc.nd rfl (.inl rfl) (pe_ix ix_list (pe_lst (pa_cons (pe_op o_add pe_int (pe_h h_ldraw (hr.mono (by decide)) (by rfl) (pa_cons (pv 0) (pa_cons pe_int pa_nil)))) (pa_cons (pe_op o_add pe_int (pe_h h_ldraw (hr.mono (by decide)) (by rfl) (pa_cons (pv 0) (pa_cons pe_int pa_nil)))) (pa_cons pe_int pa_nil)))) (pe_h h_ldraw (hr.mono (by decide)) (by rfl) (pa_cons (pv 0) (pa_cons pe_int pa_nil))) (fun _ _ => rfl)))
      (pss_cons (ps_set (i := 2) sc.nd rfl (.inr rfl) (pe_op o_sub (pe_h h_ldraw (hr.mono (by decide)) (by rfl) (pa_cons (pv 0) (pa_cons pe_int pa_nil))) pe_int))
      (pss_cut (ps_if (pt_cmpR op_eq (pe_h h_ldraw (hr.mono (by decide)) (by rfl) (pa_cons (pv 0) (pa_cons pe_int pa_nil))) pe_int (nomark _)) (pss_cons (ps_set (i := 2) sc.nd rfl (.inr rfl) (pe_op o_add (pe_callTy cr_intS (by rfl) T.b_int (by decide +kernel) (pa_cons (pe_op o_adds pe_str (pe_op o_muls pe_str (pe_op o_add pe_int (pe_h h_ldraw (hr.mono (by decide)) (by rfl) (pa_cons (pv 0) (pa_cons pe_int pa_nil)))))) pa_nil)) (pe_h h_ldraw (hr.mono (by decide)) (by rfl) (pa_cons (pv 0) (pa_cons (pe_op o_pow pe_int pe_int) pa_nil)))))
      (pss_one (ps_set (i := 2) sc.nd rfl (.inr rfl) (pe_op o_mul (pv 2) (pe_op o_sub pe_int (pe_op o_mul pe_int (pe_h h_ldraw (hr.mono (by decide)) (by rfl) (pa_cons (pv 0) (pa_cons pe_int pa_nil))))))))) pss_nil)
      (pss_cons (ps_if (pt_cmpR op_eq (pe_h h_ldraw (hr.mono (by decide)) (by rfl) (pa_cons (pv 0) (pa_cons pe_int pa_nil))) pe_int (nomark _)) (pss_one (ps_ret (pe_callTy cr_tuple (by rfl) T.b_tuple (by decide +kernel) (pa_cons (pe_lc (own := [("_law_k", 3)]) (by rfl) sc.nd (pi_range1 (by rfl) T.b_range (pa_cons (pv 1) pa_nil)) (blkOk_by (own := [("_law_k", 3)]) (N := N_lshape) (sc := defScope s_lshape) (by decide +kernel)) (fun _ _ _ _ _ => (pg_name (i := 3) sc.nd rfl (by first | exact .inl rfl | exact .inr rfl))) (fun _ _ _ _ _ => pts_nil) (fun _ _ _ _ _ => (pe_tup (pa_cons (pe_op o_add (pv 2) (pv 3)) pa_nil)))) pa_nil)))) pss_nil)
      (pss_one (ps_ret (pe_callTy cr_tuple (by rfl) T.b_tuple (by decide +kernel) (pa_cons (pe_lc (own := [("_law_k", 3)]) (by rfl) sc.nd (pi_range1 (by rfl) T.b_range (pa_cons (pv 1) pa_nil)) (blkOk_by (own := [("_law_k", 3)]) (N := N_lshape) (sc := defScope s_lshape) (by decide +kernel)) (fun _ _ _ _ _ => (pg_name (i := 3) sc.nd rfl (by first | exact .inl rfl | exact .inr rfl))) (fun _ _ _ _ _ => pts_nil) (fun _ _ _ _ _ => (pe_tup (pa_cons (pv 2) (pa_cons (pe_op o_add (pe_op o_add (pv 2) pe_int) (pv 3)) pa_nil))))) pa_nil))))))))

abbrev s_lturned : Stmt := topS 10
abbrev N_lturned : List Str := ["_law_pen_here", "_law_some", "_law_found", "_law_one"]
theorem sc_lturned : FnScope N_lturned ["_law_pen_here", "_law_some"] (defScope s_lturned) := ⟨rfl, rfl, rfl, by decide +kernel, rfl, by decide +kernel, by decide +kernel⟩
theorem ok_lturned {f : Addr} {fd : FuncData} (F : Fun K "_law_turned" "_law_turned" s_lturned f fd) (T : Tx K mg) (h_ldraw : Has P w K mg base "_law_draw" ["_law_pen_here", "_law_many"] 1 (sp_ldraw K)) : FnOk P w K mg base CX0 2 f fd ["_law_pen_here", "_law_some"] (sp_lturned K) := by
  have sc := sc_lturned
  refine F.ok sc (len_lturned K) (fun cdv A outer s H vs Q E hr h => ⟨t_lturned K, ?_, rd_lturned h⟩)
  exact (pss_cons (ps_set (i := 2) sc.nd rfl (.inl rfl) (pe_lst pa_nil))
      (pss_cons (ps_for PassesOwn.never rfl (pi_list (pv 1)) (pg_name (i := 3) sc.nd rfl (.inl rfl))
      (pss_one (ps_expr (pe_bm PySem.F.plainAttrs_list PySem.F.slot_list_insert PySem.F.type_list_insert mt_ins (pv 2) (pa_cons (pe_h h_ldraw (hr.mono (by decide)) (by rfl) (pa_cons (pv 0) (pa_cons (pe_op o_add (pe_callB cr_len (by rfl) T.b_len (by decide +kernel) (pa_cons (pv 2) pa_nil)) pe_int) pa_nil))) (pa_cons (pv 3) pa_nil))))))
      (pss_one (ps_ret (pv 2)))))

abbrev s_lspoilt : Stmt := topS 11
abbrev N_lspoilt : List Str := ["_law_pen_here", "_law_wish", "_law_many", "_law_start", "_law_finish", "_law_odd", "_law_found", "_law_k"]
theorem sc_lspoilt : FnScope N_lspoilt ["_law_pen_here", "_law_wish", "_law_many"] (defScope s_lspoilt) := ⟨rfl, rfl, rfl, by decide +kernel, rfl, by decide +kernel, by decide +kernel⟩
theorem ok_lspoilt {f : Addr} {fd : FuncData} (F : Fun K "_law_spoilt" "_law_spoilt" s_lspoilt f fd) (T : Tx K mg) (h_ldraw : Has P w K mg base "_law_draw" ["_law_pen_here", "_law_many"] 1 (sp_ldraw K)) : FnOk P w K mg base CX0 2 f fd ["_law_pen_here", "_law_wish", "_law_many"] (sp_lspoilt K) := by
  have sc := sc_lspoilt
  refine F.ok sc (len_lspoilt K) (fun cdv A outer s H vs Q E hr h => ⟨t_lspoilt K, ?_, rd_lspoilt h⟩)
  exact (pss_cons (ps_asg (pv 1) (pg_tup rfl (pgs_cons (pg_name (i := 3) sc.nd rfl (.inl rfl)) (pgs_cons (pg_name (i := 4) sc.nd rfl (.inl rfl)) pgs_nil))))
      (pss_cons (ps_set (i := 5) sc.nd rfl (.inl rfl) (pe_ix ix_list (pe_lst (pa_cons (pv 2) (pa_cons (pe_un un_neg pe_int) (pa_cons (pe_op o_add (pv 2) (pe_h h_ldraw (hr.mono (by decide)) (by rfl) (pa_cons (pv 0) (pa_cons (pe_op o_pow pe_int pe_int) pa_nil)))) (pa_cons pe_bl (pa_cons pe_bl (pa_cons pe_non (pa_cons pe_str (pa_cons (pe_tup (pa_cons pe_int pa_nil)) (pa_cons (pe_lst (pa_cons pe_int pa_nil)) (pa_cons pe_str pa_nil))))))))))) (pe_h h_ldraw (hr.mono (by decide)) (by rfl) (pa_cons (pv 0) (pa_cons pe_int pa_nil))) (fun _ _ => rfl)))
      (pss_cons (ps_set (i := 6) sc.nd rfl (.inl rfl) (pe_lst (pa_cons (pe_lst (pa_cons (pv 3) (pa_cons (pv 4) pa_nil))) (pa_cons (pe_tup (pa_cons (pv 3) pa_nil)) (pa_cons (pe_tup (pa_cons (pv 3) (pa_cons (pv 4) (pa_cons (pe_tup pa_nil) pa_nil)))) (pa_cons (pe_tup (pa_cons (pe_callTy cr_list (by rfl) T.b_list (by decide +kernel) (pa_cons (pv 3) pa_nil)) (pa_cons (pv 4) pa_nil))) (pa_cons (pe_tup (pa_cons (pv 3) (pa_cons (pe_callTy cr_list (by rfl) T.b_list (by decide +kernel) (pa_cons (pv 4) pa_nil)) pa_nil))) pa_nil)))))))
      (pss_cons (ps_set (i := 6) sc.nd rfl (.inl rfl) (pe_op op_cat (pv 6) (pe_lst (pa_cons (pe_tup (pa_cons (pe_op op_catA (pv 3) (pe_tup (pa_cons (pv 5) pa_nil))) (pa_cons (pv 4) pa_nil))) (pa_cons (pe_tup (pa_cons (pe_op op_catA (pe_tup (pa_cons (pv 5) pa_nil)) (pv 3)) (pa_cons (pv 4) pa_nil))) (pa_cons (pe_tup (pa_cons (pv 3) (pa_cons (pe_op op_catA (pv 4) (pe_tup (pa_cons (pv 5) pa_nil))) pa_nil))) (pa_cons (pe_tup (pa_cons (pv 3) (pa_cons (pe_lst (pa_cons (pv 5) pa_nil)) pa_nil))) pa_nil)))))))
      (pss_cons (ps_set (i := 6) sc.nd rfl (.inl rfl) (pe_op op_cat (pv 6) (pe_lst (pa_cons (pe_op op_catA (pv 3) (pv 4)) (pa_cons pe_non (pa_cons pe_int (pa_cons pe_str (pa_cons pe_dnewT (pa_cons (pe_disp (pps_cons pe_int (pv 3) pps_nil) rfl rfl (by simp) (Nat.le_of_ble_eq_true rfl)) (pa_cons (pe_tup pa_nil) (pa_cons (pe_lst pa_nil) (pa_cons (pe_tup (pa_cons (pe_tup pa_nil) (pa_cons pe_dnewT pa_nil))) (pa_cons (pe_tup (pa_cons pe_non (pa_cons (pe_tup pa_nil) pa_nil))) (pa_cons (pe_tup (pa_cons pe_str (pa_cons pe_str pa_nil))) pa_nil))))))))))))))
      (pss_cons (ps_for PassesOwn.never rfl (pi_tup (pe_op op_catA (pv 3) (pv 4))) (pg_name (i := 7) sc.nd rfl (.inl rfl))
      (pss_one (ps_set (i := 6) sc.nd rfl (.inl rfl) (pe_op op_cat (pv 6) (pe_lst (pa_cons (pe_tup (pa_cons (pe_op op_catA (pv 3) (pe_tup (pa_cons (pv 7) pa_nil))) (pa_cons (pv 4) pa_nil))) (pa_cons (pe_tup (pa_cons (pv 3) (pa_cons (pe_op op_catA (pe_tup (pa_cons (pv 7) pa_nil)) (pv 4)) pa_nil))) pa_nil)))))))
      (pss_one (ps_ret (pv 6)))))))))

abbrev s_lmay : Stmt := topS 12
abbrev N_lmay : List Str := ["_law_many", "_law_wish", "_law_laid", "_law_start", "_law_finish", "_law_place", "_law_k"]
theorem sc_lmay : FnScope N_lmay ["_law_many", "_law_wish", "_law_laid"] (defScope s_lmay) := ⟨rfl, rfl, rfl, by decide +kernel, rfl, by decide +kernel, by decide +kernel⟩
theorem ok_lmay {f : Addr} {fd : FuncData} (F : Fun K "_law_may" "_law_may" s_lmay f fd) (T : Tx K mg) : FnOk P w K mg base CX0 1 f fd ["_law_many", "_law_wish", "_law_laid"] (sp_lmay K) := by
  have sc := sc_lmay
  refine F.ok sc (len_lmay K) (fun cdv A outer s H vs Q E hr h => ⟨t_lmay K, ?_, rd_lmay h⟩)
  exact (pss_cons (ps_asg (pv 1) (pg_tup rfl (pgs_cons (pg_name (i := 3) sc.nd rfl (.inl rfl)) (pgs_cons (pg_name (i := 4) sc.nd rfl (.inr rfl)) pgs_nil))))
      (pss_cons (ps_set (i := 5) sc.nd rfl (.inl rfl) (pe_callB cr_len (by rfl) T.b_len (by decide +kernel) (pa_cons (pv 2) pa_nil)))
      (pss_cons (ps_if (pt_cmpR op_eq (pv 5) (pv 0) (nomark _)) (pss_one (ps_ret (pe_lst pa_nil))) pss_nil)
      (pss_cons (ps_if (pt_cmpR o_lt (pv 5) (pe_callB cr_len (by rfl) T.b_len (by decide +kernel) (pa_cons (pv 3) pa_nil)) (nomark _)) (pss_one (ps_ret (pe_lst (pa_cons (pe_ix ix_tup (pv 3) (pv 5) (fun _ _ => rfl)) pa_nil)))) pss_nil)
      (pss_cons (ps_if (pt_cmpR o_ge (pv 5) (pe_op o_sub (pv 0) (pe_callB cr_len (by rfl) T.b_len (by decide +kernel) (pa_cons (pv 4) pa_nil))) (nomark _)) (pss_one (ps_ret (pe_lst (pa_cons (pe_ix ix_tup (pv 4) (pe_op o_add (pe_op o_sub (pv 5) (pv 0)) (pe_callB cr_len (by rfl) T.b_len (by decide +kernel) (pa_cons (pv 4) pa_nil))) (fun _ _ => rfl)) pa_nil)))) pss_nil)
      (pss_one (ps_ret (pe_lc (own := [("_law_k", 6)]) (by rfl) sc.nd (pi_range1 (by rfl) T.b_range (pa_cons (pv 0) pa_nil)) (blkOk_by (own := [("_law_k", 6)]) (N := N_lmay) (sc := defScope s_lmay) (by decide +kernel)) (fun _ _ _ _ _ => (pg_name (i := 6) sc.nd rfl (by first | exact .inl rfl | exact .inr rfl))) (fun _ _ _ _ _ => (pts_one (PW.pt (pw_and (pt_cmpR op_notIn_seq (pv 6) (pv 2) (by rfl)) (pw_and1 (pt_cmpR op_notIn_seq (pv 6) (pv 4) (by rfl))))))) (fun _ _ _ _ _ => (pv 6))))))))))

abbrev s_lsame : Stmt := topS 13
abbrev N_lsame : List Str := ["_law_found", "_law_due", "_law_k"]
theorem sc_lsame : FnScope N_lsame ["_law_found", "_law_due"] (defScope s_lsame) := ⟨rfl, rfl, rfl, by decide +kernel, rfl, by decide +kernel, by decide +kernel⟩
theorem ok_lsame {f : Addr} {fd : FuncData} (F : Fun K "_law_same" "_law_same" s_lsame f fd) (T : Tx K mg) : FnOk P w K mg base CX0 1 f fd ["_law_found", "_law_due"] (sp_lsame K) := by
  have sc := sc_lsame
  refine F.ok sc (len_lsame K) (fun cdv A outer s H vs Q E hr h => ⟨t_lsame K, ?_, rd_lsame h⟩)
  exact (pss_cons (ps_if (PW.pt (pw_or (pt_not (pt_val (pe_callB call_isi (by rfl) T.b_isinstance (by decide +kernel) (pa_cons (pv 0) (pa_cons (pe_bltn (v := .ty "list") (u := .type "list") (by rfl) T.b_list (by decide +kernel) rfl) pa_nil))))) (pw_or1 (pt_cmpR (op_neD hr.units) (pv 0) (pv 1) (nomark _))))) (pss_one (ps_ret pe_bl)) pss_nil)
      (pss_one (ps_ret (pe_callB (cr_all rfl) (by rfl) T.b_all (by decide +kernel) (pa_cons (pe_lc (own := [("_law_k", 2)]) (by rfl) sc.nd (pi_list (pv 0)) (blkOk_by (own := [("_law_k", 2)]) (N := N_lsame) (sc := defScope s_lsame) (by decide +kernel)) (fun _ _ _ _ _ => (pg_name (i := 2) sc.nd rfl (by first | exact .inl rfl | exact .inr rfl))) (fun _ _ _ _ _ => pts_nil) (fun _ _ _ _ _ => (pe_and (pe_callB call_isi (by rfl) T.b_isinstance (by decide +kernel) (pa_cons (pv 2) (pa_cons (pe_bltn (v := .ty "int") (u := .type "int") (by rfl) T.b_int (by decide +kernel) rfl) pa_nil))) (pe_one (pe_not (pe_callB call_isi (by rfl) T.b_isinstance (by decide +kernel) (pa_cons (pv 2) (pa_cons (pe_bltn (v := .ty "bool") (u := .type "bool") (by rfl) T.b_bool (by decide +kernel) rfl) pa_nil)))))))) pa_nil)))))

abbrev s_lis : Stmt := topS 14
abbrev N_lis : List Str := ["_law_found", "_law_due"]
theorem sc_lis : FnScope N_lis ["_law_found", "_law_due"] (defScope s_lis) := ⟨rfl, rfl, rfl, by decide +kernel, rfl, by decide +kernel, by decide +kernel⟩
theorem ok_lis {f : Addr} {fd : FuncData} (F : Fun K "_law_is" "_law_is" s_lis f fd) (T : Tx K mg) : FnOk P w K mg base CX0 1 f fd ["_law_found", "_law_due"] (sp_lis K) := by
  have sc := sc_lis
  refine F.ok sc (len_lis K) (fun cdv A outer s H vs Q E hr h => ⟨t_lis K, ?_, rd_lis h⟩)
  exact (pss_one (ps_ret (pe_and (pe_callB call_isi (by rfl) T.b_isinstance (by decide +kernel) (pa_cons (pv 0) (pa_cons (pe_bltn (v := .ty "bool") (u := .type "bool") (by rfl) T.b_bool (by decide +kernel) rfl) pa_nil))) (pe_one (pe_cmpR op_eq (pv 0) (pv 1) (nomark _))))))

abbrev s_lallowed_right : Stmt := topS 15
abbrev N_lallowed_right : List Str := ["_law_shape_here", "_law_wish", "_law_row", "_law_place", "_law_laid", "_law_handed", "_law_found", "_law_due"]
theorem sc_lallowed_right : FnScope N_lallowed_right ["_law_shape_here", "_law_wish", "_law_row"] (defScope s_lallowed_right) := ⟨rfl, rfl, rfl, by decide +kernel, rfl, by decide +kernel, by decide +kernel⟩
theorem ok_lallowed_right {f : Addr} {fd : FuncData} (F : Fun K "_law_allowed_right" "_law_allowed_right" s_lallowed_right f fd) (T : Tx K mg) (h_allowed : Has P w K mg base "allowed" ["shape", "wish", "laid"] 1 (sp_allowed K)) (h_lmay : Has P w K mg base "_law_may" ["_law_many", "_law_wish", "_law_laid"] 1 (sp_lmay K)) (h_lsame : Has P w K mg base "_law_same" ["_law_found", "_law_due"] 1 (sp_lsame K)) : FnOk P w K mg base CX0 2 f fd ["_law_shape_here", "_law_wish", "_law_row"] (sp_lallowed_right K) := by
  have sc := sc_lallowed_right
  refine F.ok sc (len_lallowed_right K) (fun cdv A outer s H vs Q E hr h => ⟨t_lallowed_right K, ?_, rd_lallowed_right h⟩)
  exact (pss_cons (ps_for PassesOwn.never rfl (pi_range1 (by rfl) T.b_range (pa_cons (pe_op o_add (pe_callB cr_len (by rfl) T.b_len (by decide +kernel) (pa_cons (pv 2) pa_nil)) pe_int) pa_nil)) (pg_name (i := 3) sc.nd rfl (.inl rfl))
      (pss_cons (ps_set (i := 4) sc.nd rfl (.inl rfl) (pe_slice sl_list (pv 2) po_none (po_some (pv 3))))
      (pss_cons (ps_set (i := 5) sc.nd rfl (.inl rfl) (pe_callTy cr_list (by rfl) T.b_list (by decide +kernel) (pa_cons (pv 4) pa_nil)))
      (pss_cons (ps_set (i := 6) sc.nd rfl (.inl rfl) (pe_h h_allowed (hr.mono (by decide)) (by rfl) (pa_cons (pv 0) (pa_cons (pv 1) (pa_cons (pv 5) pa_nil)))))
      (pss_cons (ps_set (i := 7) sc.nd rfl (.inl rfl) (pe_h h_lmay (hr.mono (by decide)) (by rfl) (pa_cons (pe_callB cr_len (by rfl) T.b_len (by decide +kernel) (pa_cons (pv 0) pa_nil)) (pa_cons (pv 1) (pa_cons (pv 4) pa_nil)))))
      (pss_cons (ps_if (PW.pt (pw_or (pt_not (pt_val (pe_h h_lsame (hr.mono (by decide)) (by rfl) (pa_cons (pv 6) (pa_cons (pv 7) pa_nil))))) (pw_or1 (pt_cmpR (op_neD hr.units) (pv 5) (pv 4) (nomark _))))) (pss_one (ps_ret pe_bl)) pss_nil)
      (pss_cons (ps_expr (pe_bm PySem.F.plainAttrs_list PySem.F.slot_list_append PySem.F.type_list_append mt_append (pv 6) (pa_cons pe_int pa_nil)))
      (pss_cons (ps_expr (pe_bm0 PySem.F.plainAttrs_list PySem.F.slot_list_reverse PySem.F.type_list_reverse mt_reverse (pv 6)))
      (pss_one (ps_if (pt_not (pt_val (pe_h h_lsame (hr.mono (by decide)) (by rfl) (pa_cons (pe_h h_allowed (hr.mono (by decide)) (by rfl) (pa_cons (pv 0) (pa_cons (pv 1) (pa_cons (pv 5) pa_nil)))) (pa_cons (pv 7) pa_nil))))) (pss_one (ps_ret pe_bl)) pss_nil))))))))))
      (pss_one (ps_ret pe_bl)))

abbrev s_law : Stmt := topS 16
abbrev N_law : List Str := ["_law_script", "_law_pen_here", "_law_shape_here", "_law_many", "_law_row", "_law_count", "_law_ending", "_law_wish", "_law_one", "_law_thing", "_law_at", "_law_other", "_law_changed", "_law_due"]
theorem sc_law : FnScope N_law ["_law_script"] (defScope s_law) := ⟨rfl, rfl, rfl, by decide +kernel, rfl, by decide +kernel, by decide +kernel⟩
theorem ok_law {f : Addr} {fd : FuncData} (F : Fun K "law" "law" s_law f fd) (T : Tx K mg) (h_lpen : Has P w K mg base "_law_pen" ["_law_script"] 1 (sp_lpen K)) (h_lshape : Has P w K mg base "_law_shape" ["_law_pen_here"] 2 (sp_lshape K)) (h_lturned : Has P w K mg base "_law_turned" ["_law_pen_here", "_law_some"] 2 (sp_lturned K)) (h_ldraw : Has P w K mg base "_law_draw" ["_law_pen_here", "_law_many"] 1 (sp_ldraw K)) (h_is_wish : Has P w K mg base "is_wish" ["shape", "thing"] 2 (sp_is_wish K)) (h_lis : Has P w K mg base "_law_is" ["_law_found", "_law_due"] 1 (sp_lis K)) (h_lspoilt : Has P w K mg base "_law_spoilt" ["_law_pen_here", "_law_wish", "_law_many"] 2 (sp_lspoilt K)) (h_is_wished : Has P w K mg base "is_wished" ["wish", "order"] 1 (sp_is_wished K)) (h_lallowed_right : Has P w K mg base "_law_allowed_right" ["_law_shape_here", "_law_wish", "_law_row"] 2 (sp_lallowed_right K)) : FnOk P w K mg base CX0 3 f fd ["_law_script"] (sp_law K) := by
  have sc := sc_law
  refine F.ok sc (len_law K) (fun cdv A outer s H vs Q E hr h => ⟨t_law K, ?_, rd_law h⟩)
  exact (pss_cons (ps_set (i := 1) sc.nd rfl (.inl rfl) (pe_h h_lpen (hr.mono (by decide)) (by rfl) (pa_cons (pv 0) pa_nil)))
      (pss_cons (ps_if (PW.pt (pw_or (pt_cmpR (op_neD hr.units) (pe_kw (by rfl) T.k_NO_WISH) (pe_tup (pa_cons (pe_tup pa_nil) (pa_cons (pe_tup pa_nil) pa_nil))) (nomark _)) (pw_or1 (pt_not (pt_val (pe_callB call_isi (by rfl) T.b_isinstance (by decide +kernel) (pa_cons (pe_kw (by rfl) T.k_NO_WISH) (pa_cons (pe_bltn (v := .ty "tuple") (u := .type "tuple") (by rfl) T.b_tuple (by decide +kernel) rfl) pa_nil)))))))) (pss_one (ps_ret pe_bl)) pss_nil)
      (pss_cons (ps_set (i := 2) sc.nd rfl (.inl rfl) (pe_h h_lshape (hr.mono (by decide)) (by rfl) (pa_cons (pv 1) pa_nil)))
      (pss_cons (ps_set (i := 3) sc.nd rfl (.inl rfl) (pe_callB cr_len (by rfl) T.b_len (by decide +kernel) (pa_cons (pv 2) pa_nil)))
      (pss_cons (ps_set (i := 4) sc.nd rfl (.inl rfl) (pe_h h_lturned (hr.mono (by decide)) (by rfl) (pa_cons (pv 1) (pa_cons (pe_listRg rfl (by rfl) T.b_list (prg_1 (by rfl) T.b_range (pv 3))) pa_nil))))
      (pss_cons (ps_set (i := 5) sc.nd rfl (.inl rfl) (pe_ix ix_list (pe_lst (pa_cons (pe_h h_ldraw (hr.mono (by decide)) (by rfl) (pa_cons (pv 1) (pa_cons (pe_op o_add (pv 3) pe_int) pa_nil))) (pa_cons (pe_callB (cr_min2 rfl) (by rfl) T.b_min (by decide +kernel) (pa_cons (pv 3) (pa_cons pe_int pa_nil))) (pa_cons pe_int pa_nil)))) (pe_h h_ldraw (hr.mono (by decide)) (by rfl) (pa_cons (pv 1) (pa_cons pe_int pa_nil))) (fun _ _ => rfl)))
      (pss_cons (ps_set (i := 6) sc.nd rfl (.inl rfl) (pe_ix ix_list (pe_lst (pa_cons (pe_h h_ldraw (hr.mono (by decide)) (by rfl) (pa_cons (pv 1) (pa_cons (pe_op o_add (pe_op o_sub (pv 3) (pv 5)) pe_int) pa_nil))) (pa_cons (pe_callB (cr_min2 rfl) (by rfl) T.b_min (by decide +kernel) (pa_cons (pe_op o_sub (pv 3) (pv 5)) (pa_cons pe_int pa_nil))) (pa_cons pe_int (pa_cons (pe_op o_sub (pv 3) (pv 5)) pa_nil))))) (pe_h h_ldraw (hr.mono (by decide)) (by rfl) (pa_cons (pv 1) (pa_cons pe_int pa_nil))) (fun _ _ => rfl)))
      (pss_cons (ps_set (i := 7) sc.nd rfl (.inl rfl) (pe_tup (pa_cons (pe_callTy cr_tuple (by rfl) T.b_tuple (by decide +kernel) (pa_cons (pe_slice sl_list (pv 4) po_none (po_some (pv 5))) pa_nil)) (pa_cons (pe_callTy cr_tuple (by rfl) T.b_tuple (by decide +kernel) (pa_cons (pe_slice sl_list (pv 4) (po_some (pe_op o_sub (pv 3) (pv 6))) po_none) pa_nil)) pa_nil))))
      (pss_cons (ps_for PassesOwn.never rfl (pi_list (pe_lst (pa_cons (pv 7) (pa_cons (pe_tup (pa_cons (pe_tup pa_nil) (pa_cons (pe_tup pa_nil) pa_nil))) (pa_cons (pe_tup (pa_cons (pe_ix ix_tup (pv 7) pe_int (fun _ _ => rfl)) (pa_cons (pe_ix ix_tup (pv 7) pe_int (fun _ _ => rfl)) pa_nil))) pa_nil))))) (pg_name (i := 8) sc.nd rfl (.inl rfl))
      (pss_one (ps_if (pt_not (pt_val (pe_h h_lis (hr.mono (by decide)) (by rfl) (pa_cons (pe_h h_is_wish (hr.mono (by decide)) (by rfl) (pa_cons (pv 2) (pa_cons (pv 8) pa_nil))) (pa_cons pe_bl pa_nil))))) (pss_one (ps_ret pe_bl)) pss_nil)))
      (pss_cons (ps_for PassesOwn.never rfl (pi_list (pe_h h_lspoilt (hr.mono (by decide)) (by rfl) (pa_cons (pv 1) (pa_cons (pv 7) (pa_cons (pv 3) pa_nil))))) (pg_name (i := 9) sc.nd rfl (.inl rfl))
      (pss_one (ps_if (pt_not (pt_val (pe_h h_lis (hr.mono (by decide)) (by rfl) (pa_cons (pe_h h_is_wish (hr.mono (by decide)) (by rfl) (pa_cons (pv 2) (pa_cons (pv 9) pa_nil))) (pa_cons pe_bl pa_nil))))) (pss_one (ps_ret pe_bl)) pss_nil)))
      (pss_cons (ps_set (i := 10) sc.nd rfl (.inl rfl) (pe_h h_ldraw (hr.mono (by decide)) (by rfl) (pa_cons (pv 1) (pa_cons (pv 3) pa_nil))))
      (pss_cons (ps_set (i := 11) sc.nd rfl (.inl rfl) (pe_h h_ldraw (hr.mono (by decide)) (by rfl) (pa_cons (pv 1) (pa_cons (pv 3) pa_nil))))
      (pss_cons (ps_set (i := 12) sc.nd rfl (.inl rfl) (pe_callTy cr_list (by rfl) T.b_list (by decide +kernel) (pa_cons (pv 4) pa_nil)))
      (pss_cons (ps_asg (pe_ix ix_list (pv 4) (pv 11) (fun _ _ => rfl)) (pg_sub (pv 12) (pv 10) set_list))
      (pss_cons (ps_asg (pe_ix ix_list (pv 4) (pv 10) (fun _ _ => rfl)) (pg_sub (pv 12) (pv 11) set_list))
      (pss_cons (ps_set (i := 13) sc.nd rfl (.inl rfl) (pe_and (pe_cmpR (op_eqD hr.units) (pe_slice sl_list (pv 12) po_none (po_some (pv 5))) (pe_slice sl_list (pv 4) po_none (po_some (pv 5))) (nomark _)) (pe_one (pe_cmpR (op_eqD hr.units) (pe_slice sl_list (pv 12) (po_some (pe_op o_sub (pv 3) (pv 6))) po_none) (pe_slice sl_list (pv 4) (po_some (pe_op o_sub (pv 3) (pv 6))) po_none) (nomark _)))))
      (pss_cons (ps_if (PW.pt (pw_or (pt_not (pt_val (pe_h h_lis (hr.mono (by decide)) (by rfl) (pa_cons (pe_h h_is_wished (hr.mono (by decide)) (by rfl) (pa_cons (pv 7) (pa_cons (pe_callTy cr_list (by rfl) T.b_list (by decide +kernel) (pa_cons (pv 4) pa_nil)) pa_nil))) (pa_cons pe_bl pa_nil))))) (pw_or1 (pt_not (pt_val (pe_h h_lis (hr.mono (by decide)) (by rfl) (pa_cons (pe_h h_is_wished (hr.mono (by decide)) (by rfl) (pa_cons (pv 7) (pa_cons (pv 12) pa_nil))) (pa_cons (pv 13) pa_nil)))))))) (pss_one (ps_ret pe_bl)) pss_nil)
      (pss_cons (ps_if (pt_not (pt_val (pe_h h_lis (hr.mono (by decide)) (by rfl) (pa_cons (pe_h h_is_wished (hr.mono (by decide)) (by rfl) (pa_cons (pe_tup (pa_cons (pe_tup pa_nil) (pa_cons (pe_tup pa_nil) pa_nil))) (pa_cons (pv 12) pa_nil))) (pa_cons pe_bl pa_nil))))) (pss_one (ps_ret pe_bl)) pss_nil)
      (pss_one (ps_ret (pe_and (pe_h h_lallowed_right (hr.mono (by decide)) (by rfl) (pa_cons (pv 2) (pa_cons (pv 7) (pa_cons (pv 4) pa_nil)))) (pe_one (pe_h h_lallowed_right (hr.mono (by decide)) (by rfl) (pa_cons (pv 2) (pa_cons (pe_tup (pa_cons (pe_tup pa_nil) (pa_cons (pe_tup pa_nil) pa_nil))) (pa_cons (pv 12) pa_nil))))))))))))))))))))))))))

end
/-! ## what the top has left -/
theorem all_mk {l : PySem.W.OpenLaw} {w : World} {K : PySem.W.Frag} {h : Heap} {mg : Str → Option Value} {fa f0 f1 f2 f3 f4 f5 f6 f7 f8 f9 f10 f11 f12 f13 : Addr} (X : K.In h) (G : h.Ns mainGlobals mg) (hfa : mg "law" = some (.ref fa))
    {od0 an0 od1 an1 od2 an2 od3 an3 od4 an4 od5 an5 od6 an6 od7 an7 od8 an8 od9 an9 od10 an10 od11 an11 od12 an12 od13 an13 : Option Addr} {sl0 sl1 sl2 sl3 sl4 sl5 sl6 sl7 sl8 sl9 sl10 sl11 sl12 sl13 : Array (Option Value)} {oc0 kV0 dc0 pm0 cd0 ct0 oc1 kV1 dc1 pm1 cd1 ct1 oc2 kV2 dc2 pm2 cd2 ct2 oc3 kV3 dc3 pm3 cd3 ct3 oc4 kV4 dc4 pm4 cd4 ct4 oc5 kV5 dc5 pm5 cd5 ct5 oc6 kV6 dc6 pm6 cd6 ct6 oc7 kV7 dc7 pm7 cd7 ct7 oc8 kV8 dc8 pm8 cd8 ct8 oc9 kV9 dc9 pm9 cd9 ct9 oc10 kV10 dc10 pm10 cd10 ct10 oc11 kV11 dc11 pm11 cd11 ct11 oc12 kV12 dc12 pm12 cd12 ct12 oc13 kV13 dc13 pm13 cd13 ct13 : Value}
    (a0 : PySem.W.nsIn K mainGlobals "is_number" = some (some (.ref f0))) (l0 : K.lookup f0 = some ⟨oc0, od0, .func (PySem.W.fnOf "is_number" "is_number" (defArgs s_is_number) (defBody s_is_number) (defScope s_is_number) .none kV0 dc0 pm0 an0 cd0 ct0), sl0⟩) (c0 : PySem.W.codeIn K cd0 "is_number" = true) (k0 : PySem.W.keepIn K (.ref f0) = true)
    (a1 : PySem.W.nsIn K mainGlobals "is_wish" = some (some (.ref f1))) (l1 : K.lookup f1 = some ⟨oc1, od1, .func (PySem.W.fnOf "is_wish" "is_wish" (defArgs s_is_wish) (defBody s_is_wish) (defScope s_is_wish) .none kV1 dc1 pm1 an1 cd1 ct1), sl1⟩) (c1 : PySem.W.codeIn K cd1 "is_wish" = true) (k1 : PySem.W.keepIn K (.ref f1) = true)
    (a2 : PySem.W.nsIn K mainGlobals "is_wished" = some (some (.ref f2))) (l2 : K.lookup f2 = some ⟨oc2, od2, .func (PySem.W.fnOf "is_wished" "is_wished" (defArgs s_is_wished) (defBody s_is_wished) (defScope s_is_wished) .none kV2 dc2 pm2 an2 cd2 ct2), sl2⟩) (c2 : PySem.W.codeIn K cd2 "is_wished" = true) (k2 : PySem.W.keepIn K (.ref f2) = true)
    (a3 : PySem.W.nsIn K mainGlobals "allowed" = some (some (.ref f3))) (l3 : K.lookup f3 = some ⟨oc3, od3, .func (PySem.W.fnOf "allowed" "allowed" (defArgs s_allowed) (defBody s_allowed) (defScope s_allowed) .none kV3 dc3 pm3 an3 cd3 ct3), sl3⟩) (c3 : PySem.W.codeIn K cd3 "allowed" = true) (k3 : PySem.W.keepIn K (.ref f3) = true)
    (a4 : PySem.W.nsIn K mainGlobals "_law_pen" = some (some (.ref f4))) (l4 : K.lookup f4 = some ⟨oc4, od4, .func (PySem.W.fnOf "_law_pen" "_law_pen" (defArgs s_lpen) (defBody s_lpen) (defScope s_lpen) .none kV4 dc4 pm4 an4 cd4 ct4), sl4⟩) (c4 : PySem.W.codeIn K cd4 "_law_pen" = true) (k4 : PySem.W.keepIn K (.ref f4) = true)
    (a5 : PySem.W.nsIn K mainGlobals "_law_draw" = some (some (.ref f5))) (l5 : K.lookup f5 = some ⟨oc5, od5, .func (PySem.W.fnOf "_law_draw" "_law_draw" (defArgs s_ldraw) (defBody s_ldraw) (defScope s_ldraw) .none kV5 dc5 pm5 an5 cd5 ct5), sl5⟩) (c5 : PySem.W.codeIn K cd5 "_law_draw" = true) (k5 : PySem.W.keepIn K (.ref f5) = true)
    (a6 : PySem.W.nsIn K mainGlobals "_law_shape" = some (some (.ref f6))) (l6 : K.lookup f6 = some ⟨oc6, od6, .func (PySem.W.fnOf "_law_shape" "_law_shape" (defArgs s_lshape) (defBody s_lshape) (defScope s_lshape) .none kV6 dc6 pm6 an6 cd6 ct6), sl6⟩) (c6 : PySem.W.codeIn K cd6 "_law_shape" = true) (k6 : PySem.W.keepIn K (.ref f6) = true)
    (a7 : PySem.W.nsIn K mainGlobals "_law_turned" = some (some (.ref f7))) (l7 : K.lookup f7 = some ⟨oc7, od7, .func (PySem.W.fnOf "_law_turned" "_law_turned" (defArgs s_lturned) (defBody s_lturned) (defScope s_lturned) .none kV7 dc7 pm7 an7 cd7 ct7), sl7⟩) (c7 : PySem.W.codeIn K cd7 "_law_turned" = true) (k7 : PySem.W.keepIn K (.ref f7) = true)
    (a8 : PySem.W.nsIn K mainGlobals "_law_spoilt" = some (some (.ref f8))) (l8 : K.lookup f8 = some ⟨oc8, od8, .func (PySem.W.fnOf "_law_spoilt" "_law_spoilt" (defArgs s_lspoilt) (defBody s_lspoilt) (defScope s_lspoilt) .none kV8 dc8 pm8 an8 cd8 ct8), sl8⟩) (c8 : PySem.W.codeIn K cd8 "_law_spoilt" = true) (k8 : PySem.W.keepIn K (.ref f8) = true)
    (a9 : PySem.W.nsIn K mainGlobals "_law_may" = some (some (.ref f9))) (l9 : K.lookup f9 = some ⟨oc9, od9, .func (PySem.W.fnOf "_law_may" "_law_may" (defArgs s_lmay) (defBody s_lmay) (defScope s_lmay) .none kV9 dc9 pm9 an9 cd9 ct9), sl9⟩) (c9 : PySem.W.codeIn K cd9 "_law_may" = true) (k9 : PySem.W.keepIn K (.ref f9) = true)
    (a10 : PySem.W.nsIn K mainGlobals "_law_same" = some (some (.ref f10))) (l10 : K.lookup f10 = some ⟨oc10, od10, .func (PySem.W.fnOf "_law_same" "_law_same" (defArgs s_lsame) (defBody s_lsame) (defScope s_lsame) .none kV10 dc10 pm10 an10 cd10 ct10), sl10⟩) (c10 : PySem.W.codeIn K cd10 "_law_same" = true) (k10 : PySem.W.keepIn K (.ref f10) = true)
    (a11 : PySem.W.nsIn K mainGlobals "_law_is" = some (some (.ref f11))) (l11 : K.lookup f11 = some ⟨oc11, od11, .func (PySem.W.fnOf "_law_is" "_law_is" (defArgs s_lis) (defBody s_lis) (defScope s_lis) .none kV11 dc11 pm11 an11 cd11 ct11), sl11⟩) (c11 : PySem.W.codeIn K cd11 "_law_is" = true) (k11 : PySem.W.keepIn K (.ref f11) = true)
    (a12 : PySem.W.nsIn K mainGlobals "_law_allowed_right" = some (some (.ref f12))) (l12 : K.lookup f12 = some ⟨oc12, od12, .func (PySem.W.fnOf "_law_allowed_right" "_law_allowed_right" (defArgs s_lallowed_right) (defBody s_lallowed_right) (defScope s_lallowed_right) .none kV12 dc12 pm12 an12 cd12 ct12), sl12⟩) (c12 : PySem.W.codeIn K cd12 "_law_allowed_right" = true) (k12 : PySem.W.keepIn K (.ref f12) = true)
    (a13 : PySem.W.nsIn K mainGlobals "law" = some (some (.ref f13))) (l13 : K.lookup f13 = some ⟨oc13, od13, .func (PySem.W.fnOf "law" "law" (defArgs s_law) (defBody s_law) (defScope s_law) .none kV13 dc13 pm13 an13 cd13 ct13), sl13⟩) (c13 : PySem.W.codeIn K cd13 "law" = true) (k13 : PySem.W.keepIn K (.ref f13) = true)
    (z0 : PySem.W.nsIn K mainGlobals "int" = some none)
    (z1 : PySem.W.nsIn K mainGlobals "isinstance" = some none)
    (z2 : PySem.W.nsIn K mainGlobals "bool" = some none)
    (z3 : PySem.W.nsIn K mainGlobals "len" = some none)
    (z4 : PySem.W.nsIn K mainGlobals "tuple" = some none)
    (z5 : PySem.W.nsIn K mainGlobals "range" = some none)
    (z6 : PySem.W.nsIn K mainGlobals "abs" = some none)
    (z7 : PySem.W.nsIn K mainGlobals "list" = some none)
    (z8 : PySem.W.nsIn K mainGlobals "all" = some none)
    (z9 : PySem.W.nsIn K mainGlobals "min" = some none)
    (q0 : ∃ a, PySem.W.nsIn K mainGlobals "NO_WISH" = some (some (.ref a)) ∧ kwB K a = true) :
    ∃ fd : FuncData, (∀ (s : Shared) (v : Value), BindsTo s fd ⟨[v], []⟩ [("_law_script", v)]) ∧ ∀ base : Heap, K.In base → base.Ns mainGlobals mg → SMod base → FnG l.prog w K mg base 3 fa fd ["_law_script"] (sp_law K) := by
  have e := hfa.symm.trans (PySem.W.mg_of X G a13)
  cases e
  have T : Tx K mg := ⟨(let ⟨a, h, k⟩ := q0; ⟨a, PySem.W.mg_of X G h, kwB_ok k⟩), PySem.W.mg_none_of X G z0, PySem.W.mg_none_of X G z1, PySem.W.mg_none_of X G z2, PySem.W.mg_none_of X G z3, PySem.W.mg_none_of X G z4, PySem.W.mg_none_of X G z5, PySem.W.mg_none_of X G z6, PySem.W.mg_none_of X G z7, PySem.W.mg_none_of X G z8, PySem.W.mg_none_of X G z9⟩
  have F0 := fun_mk (st := s_is_number) l0 c0 k0
  have b0 := F0.binds (ps := ["shape", "thing"]) fun _ _ _ _ _ _ us hl => match us, hl with | [_, _], _ => rfl
  have F1 := fun_mk (st := s_is_wish) l1 c1 k1
  have b1 := F1.binds (ps := ["shape", "thing"]) fun _ _ _ _ _ _ us hl => match us, hl with | [_, _], _ => rfl
  have F2 := fun_mk (st := s_is_wished) l2 c2 k2
  have b2 := F2.binds (ps := ["wish", "order"]) fun _ _ _ _ _ _ us hl => match us, hl with | [_, _], _ => rfl
  have F3 := fun_mk (st := s_allowed) l3 c3 k3
  have b3 := F3.binds (ps := ["shape", "wish", "laid"]) fun _ _ _ _ _ _ us hl => match us, hl with | [_, _, _], _ => rfl
  have F4 := fun_mk (st := s_lpen) l4 c4 k4
  have b4 := F4.binds (ps := ["_law_script"]) fun _ _ _ _ _ _ us hl => match us, hl with | [_], _ => rfl
  have F5 := fun_mk (st := s_ldraw) l5 c5 k5
  have b5 := F5.binds (ps := ["_law_pen_here", "_law_many"]) fun _ _ _ _ _ _ us hl => match us, hl with | [_, _], _ => rfl
  have F6 := fun_mk (st := s_lshape) l6 c6 k6
  have b6 := F6.binds (ps := ["_law_pen_here"]) fun _ _ _ _ _ _ us hl => match us, hl with | [_], _ => rfl
  have F7 := fun_mk (st := s_lturned) l7 c7 k7
  have b7 := F7.binds (ps := ["_law_pen_here", "_law_some"]) fun _ _ _ _ _ _ us hl => match us, hl with | [_, _], _ => rfl
  have F8 := fun_mk (st := s_lspoilt) l8 c8 k8
  have b8 := F8.binds (ps := ["_law_pen_here", "_law_wish", "_law_many"]) fun _ _ _ _ _ _ us hl => match us, hl with | [_, _, _], _ => rfl
  have F9 := fun_mk (st := s_lmay) l9 c9 k9
  have b9 := F9.binds (ps := ["_law_many", "_law_wish", "_law_laid"]) fun _ _ _ _ _ _ us hl => match us, hl with | [_, _, _], _ => rfl
  have F10 := fun_mk (st := s_lsame) l10 c10 k10
  have b10 := F10.binds (ps := ["_law_found", "_law_due"]) fun _ _ _ _ _ _ us hl => match us, hl with | [_, _], _ => rfl
  have F11 := fun_mk (st := s_lis) l11 c11 k11
  have b11 := F11.binds (ps := ["_law_found", "_law_due"]) fun _ _ _ _ _ _ us hl => match us, hl with | [_, _], _ => rfl
  have F12 := fun_mk (st := s_lallowed_right) l12 c12 k12
  have b12 := F12.binds (ps := ["_law_shape_here", "_law_wish", "_law_row"]) fun _ _ _ _ _ _ us hl => match us, hl with | [_, _, _], _ => rfl
  have F13 := fun_mk (st := s_law) l13 c13 k13
  have b13 := F13.binds (ps := ["_law_script"]) fun _ _ _ _ _ _ us hl => match us, hl with | [_], _ => rfl
  refine ⟨PySem.W.fnOf "law" "law" (defArgs s_law) (defBody s_law) (defScope s_law) .none kV13 dc13 pm13 an13 cd13 ct13, fun s v => BindsTo.of_eq rfl, fun base _ _ SM => ?_⟩
  have H0 : Has l.prog w K mg base "is_number" ["shape", "thing"] 1 (sp_is_number K) := ⟨f0, _, PySem.W.mg_of X G a0, k0, b0, ok_is_number F0 T⟩
  have H1 : Has l.prog w K mg base "is_wish" ["shape", "thing"] 2 (sp_is_wish K) := ⟨f1, _, PySem.W.mg_of X G a1, k1, b1, ok_is_wish F1 T H0⟩
  have H2 : Has l.prog w K mg base "is_wished" ["wish", "order"] 1 (sp_is_wished K) := ⟨f2, _, PySem.W.mg_of X G a2, k2, b2, ok_is_wished F2 T⟩
  have H3 : Has l.prog w K mg base "allowed" ["shape", "wish", "laid"] 1 (sp_allowed K) := ⟨f3, _, PySem.W.mg_of X G a3, k3, b3, ok_allowed F3 T⟩
  have H4 : Has l.prog w K mg base "_law_pen" ["_law_script"] 1 (sp_lpen K) := ⟨f4, _, PySem.W.mg_of X G a4, k4, b4, ok_lpen F4 T⟩
  have H5 : Has l.prog w K mg base "_law_draw" ["_law_pen_here", "_law_many"] 1 (sp_ldraw K) := ⟨f5, _, PySem.W.mg_of X G a5, k5, b5, ok_ldraw F5 T⟩
  have H6 : Has l.prog w K mg base "_law_shape" ["_law_pen_here"] 2 (sp_lshape K) := ⟨f6, _, PySem.W.mg_of X G a6, k6, b6, ok_lshape F6 T H5⟩
  have H7 : Has l.prog w K mg base "_law_turned" ["_law_pen_here", "_law_some"] 2 (sp_lturned K) := ⟨f7, _, PySem.W.mg_of X G a7, k7, b7, ok_lturned F7 T H5⟩
  have H8 : Has l.prog w K mg base "_law_spoilt" ["_law_pen_here", "_law_wish", "_law_many"] 2 (sp_lspoilt K) := ⟨f8, _, PySem.W.mg_of X G a8, k8, b8, ok_lspoilt F8 T H5⟩
  have H9 : Has l.prog w K mg base "_law_may" ["_law_many", "_law_wish", "_law_laid"] 1 (sp_lmay K) := ⟨f9, _, PySem.W.mg_of X G a9, k9, b9, ok_lmay F9 T⟩
  have H10 : Has l.prog w K mg base "_law_same" ["_law_found", "_law_due"] 1 (sp_lsame K) := ⟨f10, _, PySem.W.mg_of X G a10, k10, b10, ok_lsame F10 T⟩
  have H11 : Has l.prog w K mg base "_law_is" ["_law_found", "_law_due"] 1 (sp_lis K) := ⟨f11, _, PySem.W.mg_of X G a11, k11, b11, ok_lis F11 T⟩
  have H12 : Has l.prog w K mg base "_law_allowed_right" ["_law_shape_here", "_law_wish", "_law_row"] 2 (sp_lallowed_right K) := ⟨f12, _, PySem.W.mg_of X G a12, k12, b12, ok_lallowed_right F12 T H3 H9 H10⟩
  exact FnG.of (ok_law F13 T H4 H6 H7 H5 H1 H11 H8 H2 H12)

end Ws

open PySem PySem.W PyProof.Rows in
set_option maxRecDepth 100000 in
set_option maxHeartbeats 0 in
theorem PySem.Challenge.cw_wholesides_k19_wishes_holds : PySem.Challenge.rw_wholesides_k19_wishes.Holds := by
  w_on; o_law; k_head; (case hw => w_witness2)
  k_fill
  refine Ws.walkGS (l := PySem.Challenge.rw_wholesides_k19_wishes) (n := 63) (k := 3) (x := "_law_script") (sp := fun w => Ws.sp_law _) rfl (by decide) rfl ⟨rfl, by decide, by decide⟩ ?hi (fun w h Y => PySem.W.kIn_of Y) ?F (fun w H a ns hl hS hH => Ws.law_go (Ws.fz_of hS hH) (Ws.law_true ns))
  (case hi => kernel_rfl)
  case F =>
    intro w mg fa h KX G hmg
    refine' Ws.all_mk KX G hmg ?a0 ?l0 ?c0 ?k0 ?a1 ?l1 ?c1 ?k1 ?a2 ?l2 ?c2 ?k2 ?a3 ?l3 ?c3 ?k3 ?a4 ?l4 ?c4 ?k4 ?a5 ?l5 ?c5 ?k5 ?a6 ?l6 ?c6 ?k6 ?a7 ?l7 ?c7 ?k7 ?a8 ?l8 ?c8 ?k8 ?a9 ?l9 ?c9 ?k9 ?a10 ?l10 ?c10 ?k10 ?a11 ?l11 ?c11 ?k11 ?a12 ?l12 ?c12 ?k12 ?a13 ?l13 ?c13 ?k13 ?z0 ?z1 ?z2 ?z3 ?z4 ?z5 ?z6 ?z7 ?z8 ?z9 ?q0
    (case a0 => k_is)
    (case l0 => k_is)
    (case c0 => k_is)
    (case k0 => k_is)
    (case a1 => k_is)
    (case l1 => k_is)
    (case c1 => k_is)
    (case k1 => k_is)
    (case a2 => k_is)
    (case l2 => k_is)
    (case c2 => k_is)
    (case k2 => k_is)
    (case a3 => k_is)
    (case l3 => k_is)
    (case c3 => k_is)
    (case k3 => k_is)
    (case a4 => k_is)
    (case l4 => k_is)
    (case c4 => k_is)
    (case k4 => k_is)
    (case a5 => k_is)
    (case l5 => k_is)
    (case c5 => k_is)
    (case k5 => k_is)
    (case a6 => k_is)
    (case l6 => k_is)
    (case c6 => k_is)
    (case k6 => k_is)
    (case a7 => k_is)
    (case l7 => k_is)
    (case c7 => k_is)
    (case k7 => k_is)
    (case a8 => k_is)
    (case l8 => k_is)
    (case c8 => k_is)
    (case k8 => k_is)
    (case a9 => k_is)
    (case l9 => k_is)
    (case c9 => k_is)
    (case k9 => k_is)
    (case a10 => k_is)
    (case l10 => k_is)
    (case c10 => k_is)
    (case k10 => k_is)
    (case a11 => k_is)
    (case l11 => k_is)
    (case c11 => k_is)
    (case k11 => k_is)
    (case a12 => k_is)
    (case l12 => k_is)
    (case c12 => k_is)
    (case k12 => k_is)
    (case a13 => k_is)
    (case l13 => k_is)
    (case c13 => k_is)
    (case k13 => k_is)
    (case z0 => k_is)
    (case z1 => k_is)
    (case z2 => k_is)
    (case z3 => k_is)
    (case z4 => k_is)
    (case z5 => k_is)
    (case z6 => k_is)
    (case z7 => k_is)
    (case z8 => k_is)
    (case z9 => k_is)
    (case q0 => exact ⟨_, by k_is, by kernel_rfl⟩)


