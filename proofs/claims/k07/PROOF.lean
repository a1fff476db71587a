import PyProof.Rows.All
import Wide.All
import OpenK.AllK
import Wide.FinOn
import HandS.ForMost
import HandS.NoneIn
import HandS.CallLocal
import PyProof.ReprRoads
import PySem.Challenge.RW_wholesides_k07_counts_both_ways
set_option Elab.async false
set_option linter.all false
set_option maxRecDepth 100000
set_option maxHeartbeats 4000000
namespace Ws
open PySem PySem.Spec PyProof.Rows L2
/-! # Contracts of defs that are called where no repr is under way -/

/-- a def's promise, kept wherever the stack bears no running repr -/
structure FnG (P : Program) (w : World) (K : PySem.W.Frag) (mg : Str → Option Value) (base : Heap) (k : Nat) (f : Addr) (fd : FuncData) (ps : List Str) (sp : Sp) : Prop where
  len : ∀ vs H Q E, sp vs H Q E → vs.length = ps.length
  run : ∀ (A : Around) (outer : List Env) (s : Shared) (H : Hp) (args : Args) (us : List Value) (vs : List V) (Q : VK) (E : XK), A.guards = some [] → Room k A →
    Env0 P w K mg base A outer s H → BindsTo s fd args (ps.zip us) → Vals vs us → sp vs H Q E → codeAny (model P w) A (.call (.ref f) args) (CR CX0 outer P w H s Q E) s

section
variable {P : Program} {w : World} {K : PySem.W.Frag} {mg : Str → Option Value} {base : Heap} {k : Nat} {f : Addr} {fd : FuncData} {ps : List Str} {sp : Sp}
theorem FnG.of (F : FnOk P w K mg base CX0 k f fd ps sp) : FnG P w K mg base k f fd ps sp :=
  ⟨F.len, fun A outer s H args us vs Q E _ => F.run A outer s H args us vs Q E⟩
theorem FnG.up {j : Nat} (F : FnG P w K mg base j f fd ps sp) (h : j ≤ k) : FnG P w K mg base k f fd ps sp :=
  ⟨F.len, fun A outer s H args us vs Q E hg hr => F.run A outer s H args us vs Q E hg (hr.mono h)⟩

/-- the body of such a def: what is known besides is that no repr runs -/
theorem okG {x qual : Str} {st : Stmt} {N : List Str} (F : Fun K x qual st f fd) (S : FnScope N ps (defScope st)) (len : ∀ vs H Q E, sp vs H Q E → vs.length = ps.length)
    (hbody : ∀ (cdv : Value) (A : Around) (outer : List Env) (s : Shared) (H : Hp) (vs : List V) (Q : VK) (E : XK), (A.deeper (envOfC qual (defScope st) s.heap.objs.size f cdv)).guards = some [] →
      Room k (A.deeper (envOfC qual (defScope st) s.heap.objs.size f cdv)) → sp vs H Q E →
      ∃ t, PSs (cxOf CX0 P w K mg base N qual (defScope st) f cdv A outer s H E).nox (defBody st) t ∧ t { nx := fun _ H' => Q .non H', rt := Q } (start N vs) H) :
    FnG P w K mg base (k + 1) f fd ps sp := by
  obtain ⟨oc, od, kV, doc, pm, an, cdv, ct, osl, rfl, lk, hcd⟩ := F.ex
  refine ⟨len, fun A outer s H args us vs Q E hg hr e0 hb r hsp => ?_⟩
  have kept : ∀ b o, base.get? b = some o → s.heap.get? b = some o := fun b o e => (e0.bs b o e).1
  have KX : K.In s.heap := e0.mod.kin.keeps kept
  refine codeAny_call_function hr.depth (KX _ _ lk) rfl S.co S.gen rfl (PySem.W.codeRec_of KX hcd) (hb _ _ _ _ ?_)
  refine wpAny_newFunctionEnv_cells S.kind (fun y hy => ?_) fun env he s1 x => ?_
  · rcases S.par y.1 (List.of_mem_zip (show (y.1, y.2) ∈ ps.zip us from hy)).1 with q | q
    · exact .inl q
    · exact .inr ⟨q, PySem.W.cellsFrom_some _ _ _ (.inl q)⟩
  · subst he
    obtain ⟨t, ht, hq⟩ := hbody cdv A outer s H vs Q E hg (hr.deeper _) hsp
    refine ⟨(e0.mod.nolimit.keeps kept).keeps x.toInCall.keep, codeAny_func (wpAny_mono (ht.nox.run [] s1 (start N vs) H _ (inv_start S hr.hd e0 (len _ _ _ _ hsp) r x) hq) (fun fl s' hs => ?_) fun e s' hs => hs)⟩
    cases fl with
    | ret u => exact let ⟨v, _, H', J, rv, q⟩ := hs; ⟨v, H', J.os, J.bare, J.base, J.hok, rv, q⟩
    | next => exact let ⟨_, H', J, q⟩ := hs; ⟨V.non, H', J.os, J.bare, J.base, J.hok, rfl, q⟩
    | brk => exact let ⟨_, _, _, q⟩ := hs; q.elim
    | cont => exact let ⟨_, _, _, q⟩ := hs; q.elim
end

/-! ## defs by their names -/
/-- the module's name x holds a def that keeps sp -/
structure Has (P : Program) (w : World) (K : PySem.W.Frag) (mg : Str → Option Value) (base : Heap) (x : Str) (ps : List Str) (k : Nat) (sp : Sp) : Prop where
  ex : ∃ (f : Addr) (fd : FuncData), mg x = some (.ref f) ∧ PySem.W.keepIn K (.ref f) = true ∧ Binds K fd ps [] ∧ FnOk P w K mg base CX0 k f fd ps sp
structure HasG (P : Program) (w : World) (K : PySem.W.Frag) (mg : Str → Option Value) (base : Heap) (x : Str) (ps : List Str) (k : Nat) (sp : Sp) : Prop where
  ex : ∃ (f : Addr) (fd : FuncData), mg x = some (.ref f) ∧ PySem.W.keepIn K (.ref f) = true ∧ Binds K fd ps [] ∧ FnG P w K mg base k f fd ps sp
/-- the def at the address f keeps sp -/
structure At (P : Program) (w : World) (K : PySem.W.Frag) (mg : Str → Option Value) (base : Heap) (f : Addr) (k : Nat) (sp : Sp) : Prop where
  ex : ∃ (fd : FuncData) (ps : List Str), PySem.W.keepIn K (.ref f) = true ∧ Binds K fd ps [] ∧ FnOk P w K mg base CX0 k f fd ps sp

section
variable {X : Cx} {x : Str} {ps : List Str} {k : Nat} {sp : Sp} {p pos : Pos} {e : Expr} {es : List Expr} {t : TA}
theorem Has.g {P : Program} {w : World} {K : PySem.W.Frag} {mg : Str → Option Value} {base : Heap} (h : Has P w K mg base x ps k sp) : HasG P w K mg base x ps k sp :=
  let ⟨f, fd, h1, h2, h3, h4⟩ := h.ex
  ⟨f, fd, h1, h2, h3, .of h4⟩
theorem pe_h (h : Has X.prog X.w X.K X.mg X.base x ps k sp) (hr : Room k X.A) (hg : Gl X x) (ha : PA X (e :: es) t) (hdb : (x == ("__debug__" : Str)) = false := by decide)
    (he : starEach (e :: es) X.env = (false, eval e X.env) :: starEach es X.env := by rfl) (hpl : (backTo pos (starEach es X.env)).any (·.1) = false := by rfl) :
    PE X (.Call (.Name x p) (e :: es) [] pos) (tCall sp [] E0 t) := by
  obtain ⟨f, fd, hm, hk, hb, F⟩ := h.ex
  exact pe_call F hr hg hm hk hb .nil pass0 ha hdb he hpl
theorem pe_h0 (h : Has X.prog X.w X.K X.mg X.base x ps k sp) (hr : Room k X.A) (hg : Gl X x) (hdb : (x == ("__debug__" : Str)) = false := by decide) :
    PE X (.Call (.Name x p) [] [] pos) (tCall sp [] E0 tNil) := by
  obtain ⟨f, fd, hm, hk, hb, F⟩ := h.ex
  exact pe_call0 F hr hg hm hk hb .nil pass0 hdb
/-- a call of a def that needs to know that no repr runs -/
theorem pe_g (h : HasG X.prog X.w X.K X.mg X.base x ps k sp) (hq : X.A.guards = some []) (hr : Room k X.A) (hg : Gl X x) (ha : PA X (e :: es) t) (hdb : (x == ("__debug__" : Str)) = false := by decide)
    (he : starEach (e :: es) X.env = (false, eval e X.env) :: starEach es X.env := by rfl) (hpl : (backTo pos (starEach es X.env)).any (·.1) = false := by rfl) :
    PE X (.Call (.Name x p) (e :: es) [] pos) (tCall sp [] E0 t) := by
  obtain ⟨f, fd, hm, hk, hb, F⟩ := h.ex
  refine ⟨fun pins s σ H Q I hw => wpAny_Call_Name_kw (ld_glob I hg hm ?_ hdb)⟩
  refine PySem.W.callWith_K (h₀ := X.base) I.ok.mod.kin hk (thn (ha.run pos pins s σ H _ I hw) fun us s1 ⟨vs, H1, I1, r, q⟩ => ⟨I1.kIn, ?_⟩) he hpl
  have r2 : Vals (vs ++ []) (us ++ []) := r.append .nil
  have hl : (us ++ []).length = ps.length := r2.length.symm.trans (F.len _ _ _ _ q)
  refine wpAny_call (codeAny_mono (F.run X.A X.stack s1 H1 ⟨us, []⟩ _ _ Q E0 hq hr I1.env0 (hb s1 us I1.kIn hl) r2 q) fun res s' hs => ?_)
  match res, hs with
  | .error _, z => exact False.elim z
  | .ok (.ret u), z => exact I1.after z
  | .ok .next, z => exact False.elim z
  | .ok .brk, z => exact False.elim z
  | .ok .cont, z => exact False.elim z
end

/-- a statement, then the rest; between them a word, from which the rest is shown once -/
def tCut (t u : TS) : TS := fun D σ H => ∃ M : L2.St → Hp → Prop, t { D with nx := M } σ H ∧ ∀ σ' H', M σ' H' → u D σ' H'
theorem pss_cut {X : Cx} {st : Stmt} {rest : List Stmt} {t u : TS} (h1 : PS X st t) (h2 : PSs X rest u) : PSs X (st :: rest) (tCut t u) := by
  refine ⟨fun pins s σ H D I ⟨M, hm, hu⟩ => wpAny_execs_cons (thn (h1.run pins s σ H _ I hm) fun f s1 q => ?_)⟩
  match f, q with
  | .next, ⟨σ', H', I', m⟩ => exact h2.run pins s1 σ' H' D I' (hu σ' H' m)
  | .ret _, q => exact q
  | .brk, q => exact q
  | .cont, q => exact q

/-! ## a local that holds a def: whatever def it is, its promise goes with it -/
def tCallF (P : Program) (w : World) (K : PySem.W.Frag) (mg : Str → Option Value) (base : Heap) (k i : Nat) (t : TA) : TE := fun σ H Q => ∃ f sp, σ[i]? = some (some (.ref f)) ∧ Held P w K mg base k f sp ∧ t σ H fun vs H1 => sp vs H1 Q E0
theorem pe_callF {X : Cx} {k i : Nat} {x : Str} {p pos : Pos} {e : Expr} {es : List Expr} {t : TA} (hr : Room k X.A) (hN : X.N[i]? = some x) (hv : Vis X.env.scope x) (ha : PA X (e :: es) t)
    (hdb : (x == ("__debug__" : Str)) = false := by decide) (hcd : (x == ("__classdict__" : Str)) = false := by decide)
    (he : starEach (e :: es) X.env = (false, eval e X.env) :: starEach es X.env := by rfl) (hpl : (backTo pos (starEach es X.env)).any (·.1) = false := by rfl) :
    PE X (.Call (.Name x p) (e :: es) [] pos) (tCallF X.prog X.w X.K X.mg X.base k i t) := by
  classical
  refine ⟨fun pins s σ H Q I h => ?_⟩
  obtain ⟨f, sp, h1, h2, h3⟩ := h
  exact (pe_callA (k := k) (i := i) (S := fun g => if g = f then some sp else none) (fun g sp' e => by
    by_cases hgf : g = f
    · rw [if_pos hgf] at e
      cases e
      exact hgf ▸ h2
    · rw [if_neg hgf] at e
      cases e) hr hN hv ha hdb hcd he hpl).run pins s σ H Q I ⟨f, sp, h1, if_pos rfl, h3⟩
theorem Has.held {P : Program} {w : World} {K : PySem.W.Frag} {mg : Str → Option Value} {base : Heap} {x : Str} {ps : List Str} {k : Nat} {sp : Sp} {f : Addr} (h : Has P w K mg base x ps k sp) (g : mg x = some (.ref f)) : Held P w K mg base k f sp := by
  obtain ⟨f', fd, h1, h2, h3, h4⟩ := h.ex
  rw [g] at h1
  cases h1
  exact ⟨fd, ps, h4, h2, h3⟩

/-! ## the end of a law row, from a promise that knows that no repr runs -/
theorem endG {P : Program} {w : World} {K : PySem.W.Frag} {mg mb : Str → Option Value} {k : Nat} {fa a : Addr} {fd : FuncData} {x : Str} {sp : Sp} {s₁ : Shared} {vs : List Value} {H : Hp}
    (KX : K.In s₁.heap) (hns : s₁.heap.Ns mainGlobals mg) (hb : s₁.heap.Ns builtinsNs mb) (hbb : ∀ x : Str, x ≠ "__name__" → mb x = bootBuiltins x) (hlim : s₁.heap.NoLimit) (hg : s₁.gens = #[])
    (ha : s₁.heap.get? a = some { cls := .type "list", data := .seq vs.toArray }) (hr : Room k callerA)
    (F : ∀ base : Heap, K.In base → base.Ns mainGlobals mg → FnG P w K mg base k fa fd [x] sp) (hbind : ∀ (s : Shared) (u : Value), BindsTo s fd ⟨[u], []⟩ [(x, u)])
    (hsp : sp [.ref a] H (fun v _ => v = .bl true) fun _ _ _ => False) (hok : HOk P w H s₁.heap)
    (hH : ∀ b u, H b = some u → b = a ∧ K.lookup a = none ∧ ∃ o v, u = .frz o v) :
    codeAny (model P w) callerA (.call (.ref fa) ⟨[.ref a], []⟩) (fun r s' => r = .ok (.ret (.bool true)) ∧ OldK s₁.heap s'.heap ∧ s'.os = s₁.os ∧ AllBare s'.gens) s₁ := by
  -- what is no list at a is not tracked
  have free : ∀ {b : Addr} {o : Obj}, s₁.heap.get? b = some o → (∀ xs n, o.data ≠ .seq xs n) → H b = none := fun {b o} e d => by
    cases q : H b with
    | none => rfl
    | some u =>
      obtain ⟨rfl, _⟩ := hH b u q
      rw [ha] at e
      cases e
      exact absurd rfl (d _ _)
  have ns : ∀ {b : Addr} {m : Str → Option Value}, s₁.heap.Ns b m → (hidT s₁.heap H).Ns b m := fun {b m} z => by
    obtain ⟨o, es, ep, e, d, r⟩ := z
    exact ⟨o, es, ep, hidT_get e (free e fun _ _ z => by rw [d] at z; cases z), d, r⟩
  have kin : K.In (hidT s₁.heap H) := fun b o e => hidT_get (KX b o e) (by
    cases q : H b with
    | none => rfl
    | some u =>
      obtain ⟨rfl, h2, _⟩ := hH b u q
      rw [h2] at e
      cases e)
  have lim : (hidT s₁.heap H).NoLimit := by
    obtain ⟨mc, h1, h2⟩ := hlim
    exact ⟨mc, ns h1, h2⟩
  have e0 : Env0 P w K mg (hidT s₁.heap H) callerA [] s₁ H := ⟨rfl, ⟨kin, ns hns, ⟨mb, ns hb, hbb⟩, lim⟩, fun b o e => of_hidT e, Nat.le_of_eq (hidT_size _ _), trivial, fun b z => (List.not_mem_nil (show b ∈ ([] : List Addr) from z)).elim, hok, .of_eq hg⟩
  refine codeAny_mono ((F _ kin (ns hns)).run callerA [] s₁ H ⟨[.ref a], []⟩ [.ref a] [.ref a] _ _ rfl hr e0 (hbind s₁ (.ref a)) (.cons rfl .nil) hsp) fun r s' h => ?_
  match r, h with
  | .error _, z => exact False.elim z
  | .ok .next, z => exact False.elim z
  | .ok .brk, z => exact False.elim z
  | .ok .cont, z => exact False.elim z
  | .ok (.ret u), ⟨v, H', os, bare, un, hok', rv, q⟩ =>
    obtain rfl : v = .bl true := q
    obtain rfl : u = Value.bool true := rv
    refine ⟨rfl, OldK.of_keep fun b o e => ?_, os, bare⟩
    cases q : H b with
    | none => exact un.keep b o e q (fun z => (List.not_mem_nil (show b ∈ ([] : List Addr) from z)).elim) (fun z => (List.not_mem_nil z).elim)
    | some u =>
      obtain ⟨_, _, ob, u', rfl⟩ := hH b u q
      have e1 := (hok b _ q).1
      have e2 := (hok' b _ (un.frzs b ob u' q)).1
      rw [e] at e1
      cases e1
      exact e2

theorem walkG {l : PySem.W.OpenLaw} {n k : Nat} {q : Program} {loose : List Str} {XP : (Str → Option Value) → Heap → Prop} {YP : World → Heap → Prop} {d : DefRec} {K : Params → PySem.W.Frag} {sp : World → Sp} {x : Str}
    (hn : l.most = some n) (hn2 : n ≤ sizeLine) (hdf : d.params.defaults = []) (hr : Room k callerA)
    (hY : ∀ (w : World) (h : Heap), YP w h → (K w.params).In h)
    (F : ∀ (w : World) (mg : Str → Option Value) (fa : Addr) (h : Heap), (K w.params).In h → h.Ns mainGlobals mg → mg d.name = some (.ref fa) →
      ∃ fd : FuncData, (∀ (s : Shared) (u : Value), BindsTo s fd ⟨[u], []⟩ [(x, u)]) ∧
        ∀ base : Heap, (K w.params).In base → base.Ns mainGlobals mg → FnG l.prog w (K w.params) mg base k fa fd [x] (sp w))
    (hsp : ∀ (w : World) (H : Hp) (a : Addr) (ns : List Int), ns.length ≤ n → SqL (K w.params) H a (ns.map V.int) → (∀ b u, H b = some u → b = a ∧ ∃ o v, u = .frz o v) → sp w [.ref a] H (fun v _ => v = .bl true) fun _ _ _ => False) :
    PySem.W.WalkO q loose XP YP l.row.toRowW d [] (fun f vs => PySem.call f vs) := by
  refine Att.attach_call hn hdf fun w s₀ s₁ mg mb fa o pm cd doc a vs ns G Y ho hd hcd hmg hobj hints hlen hg => ?_
  have KX := hY w _ Y
  obtain ⟨fd, hb, hF⟩ := F w mg fa _ KX G.T.g hmg
  have hl : ns.length ≤ sizeLine := Nat.le_trans hlen hn2
  have rv := vals_ints hints
  cases hk : (K w.params).lookup a with
  | some o =>
    have e := KX a o hk
    rw [hobj] at e
    cases e
    refine endG (H := fun _ => none) KX G.T.g G.T.b G.T.builtins G.T.nolimit hg hobj hr hF hb (hsp w _ a ns hlen ?_ fun b u z => nomatch z) (fun b u z => nomatch z) fun b u z => nomatch z
    exact .inr ⟨_, vs.toArray, _, hk, rfl, rfl, rfl, by rw [List.size_toArray, hints.length]; exact hl, by simpa using rv⟩
  | none =>
    have one : ∀ b u, (fun b => if b = a then some (HO.frz { cls := .type "list", data := .seq vs.toArray } (.lst (ns.map V.int))) else none) b = some u → b = a ∧ u = HO.frz { cls := .type "list", data := .seq vs.toArray } (.lst (ns.map V.int)) := fun b u z => by
      by_cases hb : b = a
      · exact ⟨hb, (Option.some.inj ((if_pos hb).symm.trans z)).symm⟩
      · exact nomatch ((if_neg hb).symm.trans z)
    refine endG (H := fun b => if b = a then some (.frz { cls := .type "list", data := .seq vs.toArray } (.lst (ns.map V.int))) else none) KX G.T.g G.T.b G.T.builtins G.T.nolimit hg hobj hr hF hb
      (hsp w _ a ns hlen (.inl (.inr ⟨_, if_pos rfl⟩)) fun b u z => ⟨(one b u z).1, _, _, (one b u z).2⟩) (fun b u z => ?_) fun b u z => ⟨(one b u z).1, hk, _, _, (one b u z).2⟩
    obtain ⟨rfl, rfl⟩ := one b u z
    exact ⟨hobj, by rw [List.length_map]; exact hl, vs, _, rv, hobj⟩

/-! ## repr of lists and tuples, one within another -/
mutual
/-- ints below 10 ^ k in size, no dict -/
def small (k : Nat) : PyData → Bool
  | .none | .bool _ | .str _ => true
  | .int i => decide (i.natAbs < 10 ^ k)
  | .list xs | .tuple xs => smallAll k xs
  | .dict _ => false
def smallAll (k : Nat) : List PyData → Bool
  | [] => true
  | x :: xs => small k x && smallAll k xs
end
mutual
/-- how many signs its text may have -/
def cost (k : Nat) : PyData → Nat
  | .none => 4
  | .bool _ => 5
  | .int _ => k + 1
  | .str s => (reprText s).length
  | .list xs | .tuple xs => costAll k xs + 4
  | .dict _ => 0
def costAll (k : Nat) : List PyData → Nat
  | [] => 0
  | x :: xs => cost k x + 2 + costAll k xs
end
theorem smallAll_iff {k : Nat} : ∀ {xs : List PyData}, smallAll k xs = true ↔ ∀ x ∈ xs, small k x = true
  | [] => by simp [smallAll]
  | x :: xs => by simp [smallAll, smallAll_iff (xs := xs)]
theorem costAll_le {k m : Nat} : ∀ {xs : List PyData}, (∀ x ∈ xs, cost k x ≤ m) → costAll k xs ≤ (m + 2) * xs.length
  | [], _ => Nat.zero_le _
  | x :: xs, h => by
    have h1 := h x List.mem_cons_self
    have h2 := costAll_le (m := m) fun y hy => h y (List.mem_cons_of_mem _ hy)
    show cost k x + 2 + costAll k xs ≤ (m + 2) * (xs.length + 1)
    rw [Nat.mul_add]
    omega
theorem textFrom_le : ∀ (ts : List Str) (k : Nat) (acc : Str), (textFrom k acc ts).length ≤ acc.length + piled ts
  | [], _, _ => by simp [textFrom, piled]
  | t :: r, k, acc => by
    have h := textFrom_le r (k + 1) (acc ++ (if k > 0 then ", " else "" : String) ++ t)
    have e : ((if k > 0 then ", " else "" : String) : Str).length ≤ 2 := by split <;> decide +kernel
    rw [strLen_append, strLen_append] at h
    rw [piled_cons]
    show (textFrom (k + 1) _ r).length ≤ _
    omega
theorem listText_le (ts : List Str) : (listText ts).length ≤ piled ts + 2 := by
  have h := textFrom_le ts 0 "["
  have e1 : (("[" : String) : Str).length = 1 := rfl
  have e2 : (("]" : String) : Str).length = 1 := rfl
  unfold listText
  rw [strLen_append, e2]
  omega
theorem tupleText_le (ts : List Str) : (tupleText ts).length ≤ piled ts + 4 := by
  have e3 : (((if ts.length == 1 then ",)" else ")" : String) : Str)).length ≤ 2 := by split <;> decide +kernel
  have e1 : ((("(" : String) : Str)).length = 1 := rfl
  unfold tupleText
  rw [strLen_append, strLen_append, e1]
  by_cases h : ts = []
  · subst h
    have e : (Str.join ", " []).length = 0 := rfl
    omega
  · have := join_length_add ts h
    omega
theorem int_le {i : Int} {k : Nat} (hk : 0 < k) (h : i.natAbs < 10 ^ k) : (Str.ofString (toString i)).length ≤ k + 1 := by
  rw [PySem.ofString_length]
  exact int_text_length_le10 hk h
mutual
theorem shown_le {k : Nat} (hk : 0 < k) : ∀ d : PyData, small k d = true → d.shown.length ≤ cost k d
  | .none, _ => (show (PyData.shown .none).length ≤ 4 by decide +kernel)
  | .bool b, _ => (show (PyData.shown (.bool b)).length ≤ 5 by cases b <;> decide +kernel)
  | .int i, h => by
    have h' : i.natAbs < 10 ^ k := by simpa [small] using h
    exact int_le hk h'
  | .str s, _ => Nat.le_refl _
  | .list xs, h => by
    have h1 := listText_le (PyData.shownAll xs)
    have h2 := shownAll_le hk xs (by simpa [small] using h)
    show (listText (PyData.shownAll xs)).length ≤ costAll k xs + 4
    omega
  | .tuple xs, h => by
    have h1 := tupleText_le (PyData.shownAll xs)
    have h2 := shownAll_le hk xs (by simpa [small] using h)
    show (tupleText (PyData.shownAll xs)).length ≤ costAll k xs + 4
    omega
  | .dict _, h => by simp [small] at h
theorem shownAll_le {k : Nat} (hk : 0 < k) : ∀ xs : List PyData, smallAll k xs = true → piled (PyData.shownAll xs) ≤ costAll k xs
  | [], _ => by simp [PyData.shownAll, piled]
  | x :: xs, h => by
    have h' : small k x = true ∧ smallAll k xs = true := by simpa [smallAll] using h
    have h1 := shown_le hk x h'.1
    have h2 := shownAll_le hk xs h'.2
    show piled (PyData.shown x :: PyData.shownAll xs) ≤ cost k x + 2 + costAll k xs
    rw [piled_cons]
    omega
end
theorem log_small {i : Int} {k : Nat} (hk : k ≤ 500) (h : i.natAbs < 10 ^ k) : i.natAbs.log2 < 1920 := by
  by_cases h0 : i.natAbs = 0
  · rw [h0]
    decide
  · rw [Nat.log2_lt h0]
    have h1 : 10 ^ k ≤ 10 ^ 500 := Nat.pow_le_pow_right (by decide) hk
    have h2 : (10 : Nat) ^ 500 < 2 ^ 1920 := by decide +kernel
    exact Nat.lt_of_lt_of_le h (Nat.le_trans h1 (Nat.le_of_lt h2))
mutual
theorem small_shows {k : Nat} (hk : k ≤ 500) : ∀ d : PyData, small k d = true → d.showable = true ∧ d.hasDict = false
  | .none, _ => by simp [PyData.showable, PyData.hasDict]
  | .bool b, _ => by simp [PyData.showable, PyData.hasDict]
  | .int i, h => by
    have h' : i.natAbs < 10 ^ k := by simpa [small] using h
    simp [PyData.showable, PyData.hasDict, log_small hk h']
  | .str s, _ => by simp [PyData.showable, PyData.hasDict]
  | .list xs, h => by simpa [PyData.showable, PyData.hasDict] using small_showsAll hk xs (by simpa [small] using h)
  | .tuple xs, h => by simpa [PyData.showable, PyData.hasDict] using small_showsAll hk xs (by simpa [small] using h)
  | .dict _, h => by simp [small] at h
theorem small_showsAll {k : Nat} (hk : k ≤ 500) : ∀ xs : List PyData, smallAll k xs = true → PyData.showableAll xs = true ∧ PyData.hasDictAll xs = false
  | [], _ => by simp [PyData.showableAll, PyData.hasDictAll]
  | x :: xs, h => by
    have h' : small k x = true ∧ smallAll k xs = true := by simpa [smallAll] using h
    have h1 := small_shows hk x h'.1
    have h2 := small_showsAll hk xs h'.2
    simp [PyData.showableAll, PyData.hasDictAll, h1, h2]
end
/-- repr of what is read as d: a list or a tuple -/
def rReprD (K : PySem.W.Frag) : List V → Hp → VK → Prop := fun xs H Q => ∃ (a : Addr) (d : PyData) (k : Nat), xs = [.ref a] ∧ Dp K H (.ref a) d ∧ d.depth ≤ 60 ∧ (0 < k ∧ k ≤ 500) ∧ small k d = true ∧ cost k d ≤ sizeLine ∧ Q (.str d.shown) H
theorem call_reprD {X : Cx} (hg : X.A.guards = some []) (hu : X.A.units + 64 < cLine) : CallR X (.builtin "repr") (rReprD X.K) := by
  intro pins s σ H vs us Q I r h
  obtain ⟨a, d, k, rfl, hd, hz, ⟨k0, k1⟩, hs, hc, q⟩ := h
  cases r with
  | cons r1 r2 =>
    cases r2
    cases r1
    obtain ⟨as, rd⟩ := Dp.reads I d _ _ hd rfl
    obtain ⟨s1, s2⟩ := small_shows k1 d hs
    exact repr_of_reads' rd s1 (PyData.noDict_hsm s2) hg (by omega) (fun _ _ e => e) (fun h' u tk kp => ⟨.str d.shown, H, I.kept kp, ⟨u, rfl⟩, q⟩) (Nat.le_trans (shown_le k0 d hs) hc)

/-! ## heaps: what is not in S stays; tuples and locked things stay always -/
structure Ch (S : List Addr) (H H' : Hp) : Prop where
  keep : ∀ b o, b ∉ S → H b = some o → H' b = some o
  tup : ∀ b xs, H b = some (.tup xs) → H' b = some (.tup xs)
  frz : ∀ b o u, H b = some (.frz o u) → H' b = some (.frz o u)
/-- a list that is read and never written: the script -/
def Fz (K : PySem.W.Frag) (H : Hp) (a : Addr) (xs : List V) : Prop := (∃ o, H a = some (.frz o (.lst xs))) ∨ ∀ H', SqL K H' a xs
section
variable {K : PySem.W.Frag} {S S' : List Addr} {H H' H1 H2 : Hp} {p q a l : Addr} {o u : HO} {xs ys : List V}
theorem Ch.refl : Ch S H H := ⟨fun _ _ _ h => h, fun _ _ h => h, fun _ _ _ h => h⟩
theorem Ch.trans (c : Ch S H H1) (d : Ch S H1 H2) : Ch S H H2 := ⟨fun b o n h => d.keep b o n (c.keep b o n h), fun b xs h => d.tup b xs (c.tup b xs h), fun b o u h => d.frz b o u (c.frz b o u h)⟩
theorem Ch.mono (c : Ch S H H') (h : ∀ b ∈ S, b ∈ S') : Ch S' H H' := ⟨fun b o n e => c.keep b o (fun z => n (h b z)) e, c.tup, c.frz⟩
theorem Ch.wide (c : Ch [] H H') : Ch S H H' := c.mono fun _ z => absurd z List.not_mem_nil
theorem Ch.lst (c : Ch [] H H') (h : H l = some o) : H' l = some o := c.keep l o List.not_mem_nil h
theorem Ch.but (c : Ch [p] H H') (h : H l = some o) (n : l ≠ p) : H' l = some o := c.keep l o (by simpa using n) h
theorem Ch.fz (c : Ch S H H') (h : Fz K H a xs) : Fz K H' a xs := by
  rcases h with ⟨o, h⟩ | h
  · exact .inl ⟨o, c.frz _ _ _ h⟩
  · exact .inr h
theorem Fz.sql (h : Fz K H a xs) : SqL K H a xs := by
  rcases h with ⟨o, h⟩ | h
  · exact .inl (.inr ⟨o, h⟩)
  · exact h H
theorem Ch.sqt (c : Ch S H H') (h : SqT K H a xs) : SqT K H' a xs := by
  rcases h with (h | ⟨o, h⟩) | h
  · exact .inl (.inl (c.tup _ _ h))
  · exact .inl (.inr ⟨o, c.frz _ _ _ h⟩)
  · exact .inr h
theorem Ch.sql (c : Ch [] H H') (h : SqL K H a xs) : SqL K H' a xs := by
  rcases h with (h | ⟨o, h⟩) | h
  · exact .inl (.inl (c.lst h))
  · exact .inl (.inr ⟨o, c.frz _ _ _ h⟩)
  · exact .inr h
theorem Ch.free (c : Ch [] H H') (h : H' l = none) : H l = none := by
  cases q : H l with
  | none => rfl
  | some o =>
    rw [c.lst q] at h
    cases h
theorem Ch.new (h : H p = none) : Ch S H (upd H p o) := by
  have k : ∀ b u, H b = some u → upd H p o b = some u := fun b u e => by
    rw [upd_ne (ne_of_none e h)]
    exact e
  exact ⟨fun b u _ e => k b u e, fun b xs e => k _ _ e, fun b o u e => k _ _ e⟩
/-- a list is changed -/
theorem Ch.put (h : H p = some (.lst xs)) : Ch [p] H (upd H p o) := by
  refine ⟨fun b u n e => ?_, fun b xs e => ?_, fun b o u e => ?_⟩
  · rw [upd_ne (by simpa using n)]
    exact e
  · rw [upd_ne (ne_of e h (by intro z; cases z))]
    exact e
  · rw [upd_ne (ne_of e h (by intro z; cases z))]
    exact e
/-- what is new beside H may change -/
theorem Ch.old (c : Ch S H H1) (h : H p = none) (d : Ch [p] H1 H2) : Ch S H H2 :=
  ⟨fun b u n e => d.but (c.keep b u n e) (ne_of_none e h), fun b xs e => d.tup b xs (c.tup b xs e), fun b o u e => d.frz b o u (c.frz b o u e)⟩
theorem Ch.old2 (c : Ch S H H1) (h : H p = none) (h' : H q = none) (d : Ch [p, q] H1 H2) : Ch S H H2 :=
  ⟨fun b u n e => d.keep b u (by simp only [List.mem_cons, List.not_mem_nil, or_false, not_or]; exact ⟨ne_of_none e h, ne_of_none e h'⟩) (c.keep b u n e), fun b xs e => d.tup b xs (c.tup b xs e), fun b o u e => d.frz b o u (c.frz b o u e)⟩
theorem ne_new (h : H l = some o) (h' : H p = none) : l ≠ p := ne_of_none h h'
end

/-! ## readings, from the left -/
section
variable {K : PySem.W.Frag} {σ : L2.St} {H : Hp} {Q : VK} {QB : Bool → Hp → Prop} {ta tb tc te : TE} {tt tu : TT} {x y v : V} {D : Ends} {s1 s2 : TS} {i j : Int} {n : Nat} {p a : Addr} {xs ys : List V}
theorem w_start {N : List Str} {vs : List V} {σ : L2.St} {t : TS} {D : Ends} {H : Hp} (e : start N vs = σ) (h : t D σ H) : t D (start N vs) H := e ▸ h
theorem w_var (h : σ[n]? = some (some v)) (q : Q v H) : tVar n σ H Q := ⟨v, h, q⟩
theorem w_var0 (q : Q v H) : tVar 0 (some v :: σ) H Q := ⟨v, rfl, q⟩
theorem w_varS {o : Option V} (h : tVar n σ H Q) : tVar (n + 1) (o :: σ) H Q := h
theorem w_c (q : Q v H) : tC v σ H Q := q
theorem w_op {r : R2} (h : ta σ H fun x H1 => tb σ H1 fun y H2 => r x y H2 Q) : tOp r ta tb σ H Q := h
theorem w_un {r : V → Hp → VK → Prop} (h : ta σ H fun x H1 => r x H1 Q) : tUn r ta σ H Q := h
theorem w_I0 {g : Int → Int → V} (q : Q (g i j) H) : rI0 g (.int i) (.int j) H Q := ⟨i, j, rfl, rfl, q⟩
theorem w_I {C : Int → Int → Prop} {g : Int → Int → V} (c : C i j) (q : Q (g i j) H) : rI C g (.int i) (.int j) H Q := ⟨i, j, rfl, rfl, c, q⟩
theorem w_U {g : Int → V} (q : Q (g i) H) : rU g (.int i) H Q := ⟨i, rfl, q⟩
theorem w_eqI (q : Q (.bl (decide (i = j))) H) : rEq (.int i) (.int j) H Q := ⟨rfl, by rw [show decide (V.int i = V.int j) = decide (i = j) by simp]; exact q⟩
theorem w_neI (q : Q (.bl (!decide (i = j))) H) : rNe (.int i) (.int j) H Q := ⟨rfl, by rw [show decide (V.int i = V.int j) = decide (i = j) by simp]; exact q⟩
theorem w_eqS {i j : Str} (q : Q (.bl (decide (i = j))) H) : rEq (.str i) (.str j) H Q := ⟨rfl, by rw [show decide (V.str i = V.str j) = decide (i = j) by simp]; exact q⟩
theorem w_neS {i j : Str} (q : Q (.bl (!decide (i = j))) H) : rNe (.str i) (.str j) H Q := ⟨rfl, by rw [show decide (V.str i = V.str j) = decide (i = j) by simp]; exact q⟩
theorem w_ixL (h : SqL K H p xs) (ha : atI xs i = some v) (q : Q v H) : rIxL K (.ref p) (.int i) H Q := ⟨p, xs, i, v, rfl, rfl, h, ha, q⟩
theorem w_ixT (h : SqT K H p xs) (ha : atI xs i = some v) (q : Q v H) : rIxT K (.ref p) (.int i) H Q := ⟨p, xs, i, v, rfl, rfl, h, ha, q⟩
theorem atI_int {ns : List Int} {i : Int} (h0 : 0 ≤ i) (h1 : i < ns.length) : atI (ns.map V.int) i = some (.int (ns.getD i.toNat 0)) := by
  have e : i = (i.toNat : Int) := by omega
  have hl : i.toNat < ns.length := by omega
  rw [e]
  refine atI_nat ?_
  rw [List.getElem?_map, Int.toNat_natCast, List.getElem?_eq_getElem hl, List.getD_eq_getElem?_getD, List.getElem?_eq_getElem hl]
  rfl
theorem w_ixLI {ns : List Int} (h : SqL K H p (ns.map V.int)) (h0 : 0 ≤ i) (h1 : i < ns.length) (q : Q (.int (ns.getD i.toNat 0)) H) : rIxL K (.ref p) (.int i) H Q := w_ixL h (atI_int h0 h1) q
theorem w_ixTI {ns : List Int} (h : SqT K H p (ns.map V.int)) (h0 : 0 ≤ i) (h1 : i < ns.length) (q : Q (.int (ns.getD i.toNat 0)) H) : rIxT K (.ref p) (.int i) H Q := w_ixT h (atI_int h0 h1) q
theorem w_test (h : te σ H fun x H' => ∃ k, x = .bl k ∧ QB k H') : tTest te σ H QB := h
theorem w_B (h : te σ H fun x H' => ∃ k, x = .bl k ∧ QB k H') : tB te σ H QB := h
theorem w_bl {b : Bool} {QB : Bool → Prop} (q : QB b) : ∃ k, V.bl b = .bl k ∧ QB k := ⟨b, rfl, q⟩
theorem w_and (h : tt σ H fun c H1 => if c = true then tu σ H1 QB else QB false H1) : tAnd tt tu σ H QB := h
theorem w_or (h : tt σ H fun c H1 => if c = true then QB true H1 else tu σ H1 QB) : tOr tt tu σ H QB := h
theorem w_not (h : tt σ H fun c H1 => QB (!c) H1) : tNot tt σ H QB := h
theorem w_notV (h : ta σ H fun x H1 => ∃ c, x = .bl c ∧ Q (.bl (!c)) H1) : tNotV ta σ H Q := h
theorem w_andV (h : ta σ H fun x H1 => ∃ c, x = .bl c ∧ if c = true then tb σ H1 Q else Q (.bl false) H1) : tAndV ta tb σ H Q := h
theorem w_orV (h : ta σ H fun x H1 => ∃ c, x = .bl c ∧ if c = true then Q (.bl true) H1 else tb σ H1 Q) : tOrV ta tb σ H Q := h
theorem w_ifE (h : tt σ H fun c H1 => if c = true then ta σ H1 Q else tb σ H1 Q) : tIf tt ta tb σ H Q := h
theorem w_ite {c : Prop} [Decidable c] {A B : Prop} (h1 : c → A) (h2 : ¬ c → B) : if decide c = true then A else B := by
  by_cases h : c
  · rw [if_pos (decide_eq_true h)]
    exact h1 h
  · rw [if_neg (by rw [decide_eq_false h]; decide)]
    exact h2 h
theorem w_itn {c : Prop} [Decidable c] {A B : Prop} (h1 : ¬ c → A) (h2 : c → B) : if (!decide c) = true then A else B := by
  by_cases h : c
  · rw [decide_eq_true h, if_neg (by decide)]
    exact h2 h
  · rw [decide_eq_false h, if_pos (by decide)]
    exact h1 h
theorem iteNT {A B : Prop} (h : B) : if (!true) = true then A else B := h
theorem iteNF {A B : Prop} (h : A) : if (!false) = true then A else B := h
theorem w_seq (h : s1 { D with nx := s2 D } σ H) : tSeq s1 s2 D σ H := h
/-- a word between a statement and the rest -/
theorem w_cut (M : L2.St → Hp → Prop) (h : s1 { D with nx := M } σ H) (k : ∀ σ' H', M σ' H' → s2 D σ' H') : tCut s1 s2 D σ H := ⟨M, h, k⟩
theorem w_next (h : D.nx σ H) : tNext D σ H := h
theorem w_if (h : tt σ H fun b H1 => if b = true then s1 D σ H1 else s2 D σ H1) : tIfS tt s1 s2 D σ H := h
theorem w_ret (h : te σ H D.rt) : tRet te D σ H := h
theorem w_drop (h : te σ H fun _ H1 => D.nx σ H1) : tDrop te D σ H := h
theorem w_asg {g : TG} (h : te σ H fun x H1 => g x σ H1 D.nx) : tAsg te g D σ H := h
theorem w_name {Qg : L2.St → Hp → Prop} (h : Qg (σ.set n (some v)) H) : gName n v σ H Qg := h
theorem w_unl {t : TGs} {Qg : L2.St → Hp → Prop} (h : SqL K H a xs) (hl : xs.length = n) (q : t xs σ H Qg) : gUnl K n t (.ref a) σ H Qg := ⟨a, xs, rfl, h, hl, q⟩
theorem w_gtup {t : TGs} {Qg : L2.St → Hp → Prop} (h : SqT K H a xs) (hl : xs.length = n) (q : t xs σ H Qg) : gTup K n t (.ref a) σ H Qg := ⟨a, xs, rfl, h, hl, q⟩
theorem w_gcons {t : TG} {u : TGs} {Qg : L2.St → Hp → Prop} (q : t v σ H fun σ' H' => u xs σ' H' Qg) : gCons t u (v :: xs) σ H Qg := ⟨v, xs, rfl, q⟩
theorem w_gnil {Qg : L2.St → Hp → Prop} (q : Qg σ H) : gNil [] σ H Qg := ⟨rfl, q⟩
theorem w_sub {to ti : TE} {t : TSet} {Qg : L2.St → Hp → Prop} (h : to σ H fun o H1 => ti σ H1 fun i H2 => t o i v H2 fun H3 => Qg σ H3) : gSub to ti t v σ H Qg := h
theorem w_setL {Qh : Hp → Prop} {k : Nat} (h : H p = some (.lst xs)) (hk : ixN xs.length i = some k) (q : ∀ H', Ch [p] H H' → H' p = some (.lst (xs.set k v)) → Qh H') : rSetL (.ref p) (.int i) v H Qh := ⟨p, xs, i, k, rfl, rfl, h, hk, q _ (.put h) upd_same⟩
theorem w_nilA {QA : List V → Hp → Prop} (q : QA [] H) : tNil σ H QA := q
theorem w_consA {tr : TA} {QA : List V → Hp → Prop} (h : te σ H fun x H1 => tr σ H1 fun xs H2 => QA (x :: xs) H2) : tCons te tr σ H QA := h
/-- a new object o is laid -/
def New (H : Hp) (o : HO) (Q : VK) : Prop := ∀ p, H p = none → Q (.ref p) (upd H p o)
theorem w_lst {t : TA} (h : t σ H fun xs H1 => xs.length ≤ sizeLine ∧ New H1 (.lst xs) Q) : tLst t σ H Q := h
theorem w_tup {t : TA} (h : t σ H fun xs H1 => xs.length ≤ sizeLine ∧ New H1 (.tup xs) Q) : tTup t σ H Q := h
/-- a new object: from then on the heap is a letter -/
theorem w_new {o : HO} (h : ∀ p H', H p = none → Ch [] H H' → H' p = some o → Q (.ref p) H') : New H o Q := fun p hp => h p _ hp (.new hp) upd_same
theorem w_newA {o : HO} (hz : n ≤ sizeLine) (h : ∀ p H', H p = none → Ch [] H H' → H' p = some o → Q (.ref p) H') : n ≤ sizeLine ∧ New H o Q := ⟨hz, w_new h⟩
theorem w_cb {r : List V → Hp → VK → Prop} {t : TA} (h : t σ H fun vs H1 => r vs H1 Q) : tCB r t σ H Q := h
theorem w_call {sp : Sp} {t : TA} (h : t σ H fun vs H1 => sp (vs ++ []) H1 Q E0) : tCall sp [] E0 t σ H Q := h
theorem w_sl {r : V → Option Int → Option Int → Hp → VK → Prop} {tl th : TO} (h : te σ H fun x H1 => tl σ H1 fun l H2 => th σ H2 fun u H3 => r x l u H3 Q) : tSl r te tl th σ H Q := h
theorem w_part {QO : Option Int → Hp → Prop} (h : te σ H fun x H1 => ∃ i, x = .int i ∧ QO (some i) H1) : tPart te σ H QO := h
theorem w_noPart {QO : Option Int → Hp → Prop} (h : QO none H) : tNoPart σ H QO := h
theorem w_int {QI : Int → Prop} (q : QI i) : ∃ k, V.int i = .int k ∧ QI k := ⟨i, rfl, q⟩
theorem w_slL {lo hi : Option Int} (h : SqL K H a xs) (q : ∀ p H', H p = none → Ch [] H H' → H' p = some (.lst (cutV xs lo hi)) → Q (.ref p) H') : rSlL K (.ref a) lo hi H Q := ⟨a, xs, rfl, h, w_new q⟩
theorem w_bm {T : String} {r : V → List V → Hp → VK → Prop} {t : TA} (h : te σ H fun x H1 => tyV K T x H1 ∧ t σ H1 fun xs H2 => r x xs H2 Q) : tBM K T r te t σ H Q := h
theorem w_tyL {A : Prop} (h : H p = some (.lst xs)) (q : A) : tyV K "list" (.ref p) H ∧ A := ⟨.inl ⟨rfl, _, SqL.of h⟩, q⟩
theorem w_app (h : H p = some (.lst xs)) (hz : xs.length < sizeLine) (q : ∀ H', Ch [p] H H' → H' p = some (.lst (xs ++ [v])) → Q .non H') : rAppend (.ref p) [v] H Q := ⟨p, xs, v, rfl, rfl, h, hz, q _ (.put h) upd_same⟩
end

/-! ## operators by named readings -/
section
variable {X : Cx} {H : Hp} {Q : VK} {i j : Int}
def rAdd : R2 := rI0 fun i j => .int (i + j)
def rSub : R2 := rI0 fun i j => .int (i - j)
def rMul : R2 := rI CMul fun i j => .int (i * j)
def rDiv : R2 := rI CDiv fun i j => .int (i / j)
def rMod : R2 := rI (fun _ j => 0 < j) fun i j => .int (i % j)
def rPow : R2 := rI CPow fun i j => .int (i ^ j.toNat)
def rShl : R2 := rI CPow fun i j => .int (i * 2 ^ j.toNat)
def rShr : R2 := rI (fun _ j => 0 ≤ j) fun i j => .int (i / 2 ^ j.toNat)
def rAnd : R2 := rI0 fun i j => .int (Builtin.bitAnd i j)
def rOr : R2 := rI0 fun i j => .int (Builtin.bitOr i j)
def rXor : R2 := rI0 fun i j => .int (Builtin.bitXor i j)
def rLt : R2 := rI0 fun i j => .bl (decide (i < j))
def rLe : R2 := rI0 fun i j => .bl (decide (i ≤ j))
def rGt : R2 := rI0 fun i j => .bl (decide (j < i))
def rGe : R2 := rI0 fun i j => .bl (decide (j ≤ i))
def rAddS : R2 := fun x y H Q => ∃ i j, x = .str i ∧ y = .str j ∧ i.length + j.length ≤ sizeLine ∧ Q (.str (i ++ j)) H
theorem o_add : OpR X (binaryOp .Add) rAdd := op_add
theorem o_sub : OpR X (binaryOp .Sub) rSub := op_sub
theorem o_mul : OpR X (binaryOp .Mult) rMul := op_mul
theorem o_div : OpR X (binaryOp .FloorDiv) rDiv := op_fdiv
theorem o_mod : OpR X (binaryOp .Mod) rMod := op_mod
theorem o_pow : OpR X (binaryOp .Pow) rPow := op_pow
theorem o_shl : OpR X (binaryOp .LShift) rShl := op_shl
theorem o_shr : OpR X (binaryOp .RShift) rShr := op_shr
theorem o_and : OpR X (binaryOp .BitAnd) rAnd := op_and
theorem o_or : OpR X (binaryOp .BitOr) rOr := op_or
theorem o_xor : OpR X (binaryOp .BitXor) rXor := op_xor
theorem o_lt : OpR X (compareOp .Lt) rLt := op_lt
theorem o_le : OpR X (compareOp .LtE) rLe := op_le
theorem o_gt : OpR X (compareOp .Gt) rGt := op_gt
theorem o_ge : OpR X (compareOp .GtE) rGe := op_ge
theorem o_adds : OpR X (binaryOp .Add) rAddS := op_add_str
theorem w_add (q : Q (.int (i + j)) H) : rAdd (.int i) (.int j) H Q := ⟨i, j, rfl, rfl, q⟩
theorem w_subt (q : Q (.int (i - j)) H) : rSub (.int i) (.int j) H Q := ⟨i, j, rfl, rfl, q⟩
theorem w_mul (c : CMul i j) (q : Q (.int (i * j)) H) : rMul (.int i) (.int j) H Q := ⟨i, j, rfl, rfl, c, q⟩
theorem w_div (c : 0 < j ∧ j < 1073741824) (q : Q (.int (i / j)) H) : rDiv (.int i) (.int j) H Q := ⟨i, j, rfl, rfl, c, q⟩
theorem w_mod (c : 0 < j) (q : Q (.int (i % j)) H) : rMod (.int i) (.int j) H Q := ⟨i, j, rfl, rfl, c, q⟩
theorem w_pow (c : CPow i j) (q : Q (.int (i ^ j.toNat)) H) : rPow (.int i) (.int j) H Q := ⟨i, j, rfl, rfl, c, q⟩
theorem w_shl (c : CPow i j) (q : Q (.int (i * 2 ^ j.toNat)) H) : rShl (.int i) (.int j) H Q := ⟨i, j, rfl, rfl, c, q⟩
theorem w_shr (c : 0 ≤ j) (q : Q (.int (i / 2 ^ j.toNat)) H) : rShr (.int i) (.int j) H Q := ⟨i, j, rfl, rfl, c, q⟩
theorem w_band (q : Q (.int (Builtin.bitAnd i j)) H) : rAnd (.int i) (.int j) H Q := ⟨i, j, rfl, rfl, q⟩
theorem w_bor (q : Q (.int (Builtin.bitOr i j)) H) : rOr (.int i) (.int j) H Q := ⟨i, j, rfl, rfl, q⟩
theorem w_bxor (q : Q (.int (Builtin.bitXor i j)) H) : rXor (.int i) (.int j) H Q := ⟨i, j, rfl, rfl, q⟩
theorem w_lt (q : Q (.bl (decide (i < j))) H) : rLt (.int i) (.int j) H Q := ⟨i, j, rfl, rfl, q⟩
theorem w_le (q : Q (.bl (decide (i ≤ j))) H) : rLe (.int i) (.int j) H Q := ⟨i, j, rfl, rfl, q⟩
theorem w_gt (q : Q (.bl (decide (j < i))) H) : rGt (.int i) (.int j) H Q := ⟨i, j, rfl, rfl, q⟩
theorem w_ge (q : Q (.bl (decide (j ≤ i))) H) : rGe (.int i) (.int j) H Q := ⟨i, j, rfl, rfl, q⟩
end

/-! ## built-ins by named readings -/
section
variable {X : Cx}
def rLenL (K : PySem.W.Frag) : List V → Hp → VK → Prop := fun xs H Q => ∃ p ys, xs = [.ref p] ∧ (SqL K H p ys ∨ SqT K H p ys) ∧ Q (.int ys.length) H
theorem cr_len : CallR X (.builtin "len") (rLenL X.K) := call_len_seq
def rAbs : List V → Hp → VK → Prop := fun xs H Q => ∃ i, xs = [.int i] ∧ Q (.int (if i < 0 then -i else i)) H
theorem cr_abs : CallR X (.builtin "abs") rAbs := call_abs
variable {K : PySem.W.Frag} {H : Hp} {Q : VK} {p : Addr} {xs : List V} {i : Int}
theorem w_lenL (h : SqL K H p xs) (q : Q (.int xs.length) H) : rLenL K [.ref p] H Q := ⟨p, xs, rfl, .inl h, q⟩
theorem w_lenT (h : SqT K H p xs) (q : Q (.int xs.length) H) : rLenL K [.ref p] H Q := ⟨p, xs, rfl, .inr h, q⟩
theorem w_abs (q : Q (.int (i.natAbs : Int)) H) : rAbs [.int i] H Q := ⟨i, rfl, by
  rw [show (if i < 0 then -i else i) = (i.natAbs : Int) by split <;> omega]
  exact q⟩
end

section
variable {X : Cx}
def rLenStr : List V → Hp → VK → Prop := fun xs H Q => ∃ z, xs = [.str z] ∧ z.length ≤ sizeLine ∧ Q (.int z.length) H
theorem cr_lenS : CallR X (.builtin "len") rLenStr := call_len_str
def rStr : List V → Hp → VK → Prop := fun xs H Q => ∃ i, xs = [.int i] ∧ i.natAbs.log2 < 1920 ∧ Q (.str (toString i)) H
theorem cr_str : CallR X (.type "str") rStr := call_str_int
def rIntB : List V → Hp → VK → Prop := fun xs H Q => (∃ i, xs = [.int i] ∧ Q (.int i) H) ∨ ∃ k, xs = [.bl k] ∧ Q (.int (if k then 1 else 0)) H
theorem cr_intB : CallR X (.type "int") rIntB := call_int1
def rListOf (K : PySem.W.Frag) : List V → Hp → VK → Prop := fun xs H Q => ∃ p ys, xs = [.ref p] ∧ (SqL K H p ys ∨ SqT K H p ys) ∧ ∀ l, H l = none → Q (.ref l) (upd H l (.lst ys))
theorem cr_list : CallR X (.type "list") (rListOf X.K) := call_list_of
def rTupOf (K : PySem.W.Frag) : List V → Hp → VK → Prop := fun xs H Q => ∃ p ys, xs = [.ref p] ∧ ((SqL K H p ys ∧ ∀ l, H l = none → Q (.ref l) (upd H l (.tup ys))) ∨ (SqT K H p ys ∧ Q (.ref p) H))
theorem cr_tuple : CallR X (.type "tuple") (rTupOf X.K) := call_tuple_of
variable {K : PySem.W.Frag} {H : Hp} {Q : VK} {p : Addr} {xs ys : List V} {i : Int} {σ : L2.St} {te : TE} {n : Nat}
theorem w_lenS {z : Str} (hz : z.length ≤ sizeLine) (q : Q (.int z.length) H) : rLenStr [.str z] H Q := ⟨z, rfl, hz, q⟩
theorem w_str (hz : i.natAbs.log2 < 1920) (q : Q (.str (toString i)) H) : rStr [.int i] H Q := ⟨i, rfl, hz, q⟩
theorem w_intB {b : Bool} (q : Q (.int (if b then 1 else 0)) H) : rIntB [.bl b] H Q := .inr ⟨b, rfl, q⟩
theorem w_listL (h : SqL K H p xs) (q : ∀ l H', H l = none → Ch [] H H' → H' l = some (.lst xs) → Q (.ref l) H') : rListOf K [.ref p] H Q := ⟨p, xs, rfl, .inl h, w_new q⟩
theorem w_listT (h : SqT K H p xs) (q : ∀ l H', H l = none → Ch [] H H' → H' l = some (.lst xs) → Q (.ref l) H') : rListOf K [.ref p] H Q := ⟨p, xs, rfl, .inr h, w_new q⟩
theorem w_tupL (h : SqL K H p xs) (q : ∀ l H', H l = none → Ch [] H H' → H' l = some (.tup xs) → Q (.ref l) H') : rTupOf K [.ref p] H Q := ⟨p, xs, rfl, .inl ⟨h, w_new q⟩⟩
theorem w_sum {ns : List Int} (h : SqL K H p (ns.map V.int)) (q : Q (.int ns.sum) H) : rSum K [.ref p] H Q := ⟨p, ns, rfl, h, q⟩
theorem w_all {bs : List Bool} (h : SqL K H p (bs.map V.bl)) (q : Q (.bl (bs.all id)) H) : rAll K [.ref p] H Q := ⟨p, bs, rfl, h, q⟩
theorem w_any {bs : List Bool} (h : SqL K H p (bs.map V.bl)) (q : Q (.bl (bs.any id)) H) : rAny K [.ref p] H Q := ⟨p, bs, rfl, h, q⟩
theorem w_cat {l b : Addr} (h : H l = some (.lst xs)) (h' : H b = some (.lst ys)) (hz : xs.length + ys.length ≤ sizeLine) (q : ∀ p H', H p = none → Ch [] H H' → H' p = some (.lst (xs ++ ys)) → Q (.ref p) H') : rCat (.ref l) (.ref b) H Q := ⟨l, b, xs, ys, rfl, rfl, h, h', hz, w_new q⟩
/-! ## loops -/
variable {ta : TA} {tu : TS} {tt : TT} {D : Ends} {j : Nat} {g : TG} {vs : List Nat} {R : It → Hp → Prop} {a : Addr}
/-- a range of a number, walked -/
def RngGo (xs : List V) (H : Hp) (R : It → Hp → Prop) : Prop := ∃ j : Int, xs = [.int j] ∧ -(2 ^ 62) ≤ j ∧ j < 2 ^ 62 ∧ R (Itr 0 j.toNat) H
def Rng2Go (xs : List V) (H : Hp) (R : It → Hp → Prop) : Prop := ∃ i j : Int, xs = [.int i, .int j] ∧ (-(2 ^ 62) ≤ i ∧ i < 2 ^ 62 ∧ -(2 ^ 62) ≤ j ∧ j < 2 ^ 62) ∧ R (Itr i (j - i).toNat) H
/-- a list, a tuple, walked -/
def LstGo (K : PySem.W.Frag) (x : V) (H : Hp) (R : It → Hp → Prop) : Prop := ∃ a, x = .ref a ∧ (∃ xs, SqL K H a xs) ∧ R (Itl K a) H
def TupGo (K : PySem.W.Frag) (x : V) (H : Hp) (R : It → Hp → Prop) : Prop := ∃ a, x = .ref a ∧ (∃ xs, SqT K H a xs) ∧ R (Itt K a) H
def ForGo (J : It) (g : TG) (tu : TS) (D : Ends) (σ : L2.St) (H : Hp) : Prop := ∃ W : Nat → Nat → L2.St → Hp → Prop, (∃ m, W 0 m σ H) ∧ ∀ i m σ H, W i m σ H →
    (J.stop i H ∧ D.nx σ H) ∨ (J.go i H ∧ ∃ N : L2.St → Hp → Prop, (∀ σ' H', N σ' H' → ∃ m', m' < m ∧ W (i + 1) m' σ' H') ∧ ∀ x H', J.yld i H x H' → g x σ H' fun σ2 H2 => tu { D with nx := N, ct := N, bk := D.nx } σ2 H2)
def LcGo (J : It) (g : TG) (tt : TT) (te : TE) (vs : List Nat) (σ : L2.St) (H : Hp) (Q : VK) : Prop := ∀ L, H L = none → ∃ W : Nat → Nat → Hp → Prop, (∃ m, W 0 m (upd H L (.lst []))) ∧ ∀ i m H, W i m H →
    (J.stop i H ∧ Q (.ref L) H) ∨ (J.go i H ∧ ∃ Nx : Hp → Prop, (∀ H', Nx H' → ∃ m', m' < m ∧ W (i + 1) m' H') ∧ ∀ x H', J.yld i H x H' → g x (wipe σ vs) H' fun σ2 H2 => wipe σ2 vs = wipe σ vs ∧ tt σ2 H2 fun b H3 =>
      if b = true then te σ2 H3 fun y H4 => ∃ acc, H4 L = some (.lst acc) ∧ acc.length < sizeLine ∧ Nx (upd H4 L (.lst (acc ++ [y]))) else Nx H3)
theorem w_rng1 (h : ta σ H fun vs H1 => RngGo vs H1 R) : iRng1 ta σ H R := h
theorem w_rng2 (h : ta σ H fun vs H1 => Rng2Go vs H1 R) : iRng2 ta σ H R := h
theorem w_iL (h : te σ H fun x H1 => LstGo K x H1 R) : iList K te σ H R := h
theorem w_iT (h : te σ H fun x H1 => TupGo K x H1 R) : iTup K te σ H R := h
theorem w_rngN {n : Nat} (e : i = (n : Int)) (hn : n ≤ 1000000000) (h : R (Itr 0 n) H) : RngGo [.int i] H R := by
  subst e
  exact ⟨_, rfl, by omega, by omega, h⟩
theorem w_rng2N {lo : Int} {n : Nat} (e : i = lo + (n : Int)) (h0 : -1000000000 ≤ lo) (h1 : lo ≤ 1000000000) (hn : n ≤ 1000000000) (h : R (Itr lo n) H) : Rng2Go [.int lo, .int i] H R := by
  subst e
  refine ⟨_, _, rfl, by omega, ?_⟩
  rw [show (lo + (n : Int) - lo).toNat = n by omega]
  exact h
theorem w_goL (h : SqL K H a xs) (q : R (Itl K a) H) : LstGo K (.ref a) H R := ⟨a, rfl, ⟨xs, h⟩, q⟩
theorem w_goT (h : SqT K H a xs) (q : R (Itt K a) H) : TupGo K (.ref a) H R := ⟨a, rfl, ⟨xs, h⟩, q⟩
theorem w_for {wi : TI} (h : wi σ H fun J H1 => ForGo J g tu D σ H1) : tFor wi g tu D σ H := h
theorem w_lc {wi : TI} (h : wi σ H fun J H1 => LcGo J g tt te vs σ H1 Q) : tLc wi g tt te vs σ H Q := h
/-- for name in range(n), by what holds ahead of turn i -/
theorem w_forR {n : Nat} (Pv : Nat → L2.St → Hp → Prop) (h0 : Pv 0 σ H) (hs : ∀ (i : Nat) σ' H', i < n → Pv i σ' H' → tu { D with nx := Pv (i + 1), ct := Pv (i + 1), bk := D.nx } (σ'.set j (some (.int (i : Int)))) H') (hd : ∀ σ' H', Pv n σ' H' → D.nx σ' H') :
    ForGo (Itr 0 n) (gName j) tu D σ H :=
  for_range (lo := 0) (n := n) Pv h0 (fun i σ' H' hi p => by
    show tu { D with nx := Pv (i + 1), ct := Pv (i + 1), bk := D.nx } (σ'.set j (some (.int ((0 : Int) + (i : Int))))) H'
    rw [Int.zero_add]
    exact hs i σ' H' hi p) hd
theorem w_forR2 {n : Nat} {lo : Int} (Pv : Nat → L2.St → Hp → Prop) (h0 : Pv 0 σ H) (hs : ∀ (i : Nat) σ' H', i < n → Pv i σ' H' → tu { D with nx := Pv (i + 1), ct := Pv (i + 1), bk := D.nx } (σ'.set j (some (.int (lo + (i : Int))))) H') (hd : ∀ σ' H', Pv n σ' H' → D.nx σ' H') :
    ForGo (Itr lo n) (gName j) tu D σ H := for_range (lo := lo) (n := n) Pv h0 hs hd
/-- over a tuple, a list -/
theorem w_forT (Pv : Nat → L2.St → Hp → Prop) (h0 : Pv 0 σ H) (hl : ∀ i σ' H', i ≤ xs.length → Pv i σ' H' → SqT K H' a xs)
    (hs : ∀ i x σ' H', xs[i]? = some x → Pv i σ' H' → g x σ' H' fun σ2 H2 => tu { D with nx := Pv (i + 1), ct := Pv (i + 1), bk := D.nx } σ2 H2) (hd : ∀ σ' H', Pv xs.length σ' H' → D.nx σ' H') : ForGo (Itt K a) g tu D σ H := for_tup Pv h0 hl hs hd
theorem w_forL (Pv : Nat → L2.St → Hp → Prop) (h0 : Pv 0 σ H) (hl : ∀ i σ' H', i ≤ xs.length → Pv i σ' H' → SqL K H' a xs)
    (hs : ∀ i x σ' H', xs[i]? = some x → Pv i σ' H' → g x σ' H' fun σ2 H2 => tu { D with nx := Pv (i + 1), ct := Pv (i + 1), bk := D.nx } σ2 H2) (hd : ∀ σ' H', Pv xs.length σ' H' → D.nx σ' H') : ForGo (Itl K a) g tu D σ H := for_list Pv h0 hl hs hd
/-- what is made so far -/
def Lc (Pv : Addr → Nat → List V → Hp → Prop) (L : Addr) (i : Nat) (H : Hp) : Prop := ∃ acc, H L = some (.lst acc) ∧ acc.length ≤ i ∧ Pv L i acc H
/-- an item is put behind -/
theorem w_lcput {Pv : Addr → Nat → List V → Hp → Prop} {L : Addr} {i : Nat} {acc : List V} {y : V} (h : H L = some (.lst acc)) (ha : acc.length ≤ i) (hi : i < 10000000) (k : ∀ H5, Ch [L] H H5 → H5 L = some (.lst (acc ++ [y])) → Pv L (i + 1) (acc ++ [y]) H5) :
    ∃ acc, H L = some (.lst acc) ∧ acc.length < sizeLine ∧ Lc Pv L (i + 1) (upd H L (.lst (acc ++ [y]))) :=
  ⟨acc, h, by rw [sizeLine_eq]; omega, acc ++ [y], upd_same, by rw [List.length_append, List.length_singleton]; omega, k _ (.put h) upd_same⟩
/-- a turn that gives nothing -/
theorem w_lcskip {Pv : Addr → Nat → List V → Hp → Prop} {L : Addr} {i : Nat} {acc : List V} (h : H L = some (.lst acc)) (ha : acc.length ≤ i) (k : Pv L (i + 1) acc H) : Lc Pv L (i + 1) H := ⟨acc, h, by omega, k⟩
/-- the turn of a comprehension: its test, then its element, put behind what is made so far -/
def LcTurn (Pv : Addr → Nat → List V → Hp → Prop) (tt : TT) (te : TE) (L : Addr) (i : Nat) (σ2 : L2.St) (H : Hp) : Prop := tt σ2 H fun b H3 =>
  if b = true then te σ2 H3 fun y H4 => ∃ acc, H4 L = some (.lst acc) ∧ acc.length < sizeLine ∧ Lc Pv L (i + 1) (upd H4 L (.lst (acc ++ [y]))) else Lc Pv L (i + 1) H3
theorem w_turnY {Pv : Addr → Nat → List V → Hp → Prop} {L : Addr} {i : Nat} {σ2 : L2.St} (h : te σ2 H fun y H4 => ∃ acc, H4 L = some (.lst acc) ∧ acc.length < sizeLine ∧ Lc Pv L (i + 1) (upd H4 L (.lst (acc ++ [y])))) : LcTurn Pv tYes te L i σ2 H := h
theorem w_turn {Pv : Addr → Nat → List V → Hp → Prop} {L : Addr} {i : Nat} {σ2 : L2.St} (h : tt σ2 H fun b H3 =>
  if b = true then te σ2 H3 fun y H4 => ∃ acc, H4 L = some (.lst acc) ∧ acc.length < sizeLine ∧ Lc Pv L (i + 1) (upd H4 L (.lst (acc ++ [y]))) else Lc Pv L (i + 1) H3) : LcTurn Pv tt te L i σ2 H := h
/-- a comprehension over range(n): Pv L i acc H', the list so far acc -/
theorem w_lcR {n : Nat} (Pv : Addr → Nat → List V → Hp → Prop) (h0 : ∀ L H', H L = none → Ch [] H H' → H' L = some (.lst []) → Pv L 0 [] H')
    (hw : ∀ x, wipe ((wipe σ vs).set j (some x)) vs = wipe σ vs)
    (hs : ∀ L (i : Nat) acc H', H L = none → i < n → acc.length ≤ i → H' L = some (.lst acc) → Pv L i acc H' → LcTurn Pv tt te L i ((wipe σ vs).set j (some (.int (i : Int)))) H')
    (hd : ∀ L acc H', H L = none → H' L = some (.lst acc) → Pv L n acc H' → Q (.ref L) H') :
    LcGo (Itr 0 n) (gName j) tt te vs σ H Q := fun L hL =>
  lc_range (lo := 0) (n := n) (Lc Pv L) ⟨[], upd_same, Nat.le_refl _, h0 L _ hL (.new hL) upd_same⟩ (fun i H' hi p => by
    obtain ⟨acc, h1, h2, h3⟩ := p
    have e0 : (0 : Int) + (i : Int) = (i : Int) := Int.zero_add _
    rw [e0]
    exact ⟨hw _, hs L i acc H' hL hi h2 h1 h3⟩) (fun H' p => by
    obtain ⟨acc, h1, h2, h3⟩ := p
    exact hd L acc H' hL h1 h3)
theorem w_lcR2 {n : Nat} {lo : Int} (Pv : Addr → Nat → List V → Hp → Prop) (h0 : ∀ L H', H L = none → Ch [] H H' → H' L = some (.lst []) → Pv L 0 [] H')
    (hw : ∀ x, wipe ((wipe σ vs).set j (some x)) vs = wipe σ vs)
    (hs : ∀ L (i : Nat) acc H', H L = none → i < n → acc.length ≤ i → H' L = some (.lst acc) → Pv L i acc H' → LcTurn Pv tt te L i ((wipe σ vs).set j (some (.int (lo + (i : Int))))) H')
    (hd : ∀ L acc H', H L = none → H' L = some (.lst acc) → Pv L n acc H' → Q (.ref L) H') :
    LcGo (Itr lo n) (gName j) tt te vs σ H Q := fun L hL =>
  lc_range (lo := lo) (n := n) (Lc Pv L) ⟨[], upd_same, Nat.le_refl _, h0 L _ hL (.new hL) upd_same⟩ (fun i H' hi p => by
    obtain ⟨acc, h1, h2, h3⟩ := p
    exact ⟨hw _, hs L i acc H' hL hi h2 h1 h3⟩) (fun H' p => by
    obtain ⟨acc, h1, h2, h3⟩ := p
    exact hd L acc H' hL h1 h3)
theorem w_lcT (Pv : Addr → Nat → List V → Hp → Prop) (h0 : ∀ L H', H L = none → Ch [] H H' → H' L = some (.lst []) → Pv L 0 [] H')
    (hw : ∀ x, wipe ((wipe σ vs).set j (some x)) vs = wipe σ vs) (hl : ∀ L i acc H', H L = none → H' L = some (.lst acc) → Pv L i acc H' → SqT K H' a xs)
    (hs : ∀ L (i : Nat) x acc H', H L = none → xs[i]? = some x → acc.length ≤ i → H' L = some (.lst acc) → Pv L i acc H' → LcTurn Pv tt te L i ((wipe σ vs).set j (some x)) H')
    (hd : ∀ L acc H', H L = none → H' L = some (.lst acc) → Pv L xs.length acc H' → Q (.ref L) H') :
    LcGo (Itt K a) (gName j) tt te vs σ H Q := fun L hL =>
  lc_tup (xs := xs) (Lc Pv L) ⟨[], upd_same, Nat.le_refl _, h0 L _ hL (.new hL) upd_same⟩ (fun i H' _ p => by
    obtain ⟨acc, h1, h2, h3⟩ := p
    exact hl L i acc H' hL h1 h3) (fun i x H' hi p => by
    obtain ⟨acc, h1, h2, h3⟩ := p
    exact ⟨hw _, hs L i x acc H' hL hi h2 h1 h3⟩) (fun H' p => by
    obtain ⟨acc, h1, h2, h3⟩ := p
    exact hd L acc H' hL h1 h3)
theorem w_lcL (Pv : Addr → Nat → List V → Hp → Prop) (h0 : ∀ L H', H L = none → Ch [] H H' → H' L = some (.lst []) → Pv L 0 [] H')
    (hw : ∀ x, wipe ((wipe σ vs).set j (some x)) vs = wipe σ vs) (hl : ∀ L i acc H', H L = none → H' L = some (.lst acc) → Pv L i acc H' → SqL K H' a xs)
    (hs : ∀ L (i : Nat) x acc H', H L = none → xs[i]? = some x → acc.length ≤ i → H' L = some (.lst acc) → Pv L i acc H' → LcTurn Pv tt te L i ((wipe σ vs).set j (some x)) H')
    (hd : ∀ L acc H', H L = none → H' L = some (.lst acc) → Pv L xs.length acc H' → Q (.ref L) H') :
    LcGo (Itl K a) (gName j) tt te vs σ H Q := fun L hL =>
  lc_list (xs := xs) (Lc Pv L) ⟨[], upd_same, Nat.le_refl _, h0 L _ hL (.new hL) upd_same⟩ (fun i H' _ p => by
    obtain ⟨acc, h1, h2, h3⟩ := p
    exact hl L i acc H' hL h1 h3) (fun i x H' hi p => by
    obtain ⟨acc, h1, h2, h3⟩ := p
    exact ⟨hw _, hs L i x acc H' hL hi h2 h1 h3⟩) (fun H' p => by
    obtain ⟨acc, h1, h2, h3⟩ := p
    exact hd L acc H' hL h1 h3)
/-- a local's def is called -/
theorem w_callF {P : Program} {w : World} {mg : Str → Option Value} {base : Heap} {k : Nat} {f : Addr} {sp : Sp} (h : σ[n]? = some (some (.ref f))) (A : Held P w K mg base k f sp) (q : ta σ H fun vs H1 => sp vs H1 Q E0) : tCallF P w K mg base k n ta σ H Q := ⟨f, sp, h, A, q⟩
end
local macro_rules | `(tactic| walk_at "sq") => `(tactic| first | assumption | exact SqL.of (by assumption) | exact Fz.sql (by assumption))
local macro_rules | `(tactic| walk_at "num") => `(tactic| first | decide | omega | (constructor <;> first | decide | omega) | (refine Or.inl ⟨?_, ?_⟩ <;> first | decide | omega) | (refine Or.inr ⟨?_, ?_⟩ <;> first | decide | omega) | (refine ⟨?_, ?_, ?_⟩ <;> first | decide | omega))
local macro_rules | `(tactic| walk_at "rd1") => `(tactic| first
  | with_reducible refine w_seq ?_
  | with_reducible refine w_asg ?_
  | with_reducible refine w_if ?_
  | with_reducible refine w_ret ?_
  | with_reducible refine w_drop ?_
  | with_reducible refine w_next ?_
  | with_reducible refine w_op ?_
  | with_reducible refine w_un ?_
  | with_reducible refine w_var0 ?_
  | with_reducible refine w_varS ?_
  | with_reducible refine w_c ?_
  | with_reducible refine w_add ?_
  | with_reducible refine w_subt ?_
  | ((with_reducible refine w_mul ?_ ?_); · walk_at "num")
  | ((with_reducible refine w_div ?_ ?_); · walk_at "num")
  | ((with_reducible refine w_mod ?_ ?_); · walk_at "num")
  | ((with_reducible refine w_pow ?_ ?_); · walk_at "num")
  | with_reducible refine w_lt ?_
  | with_reducible refine w_le ?_
  | with_reducible refine w_gt ?_
  | with_reducible refine w_ge ?_
  | with_reducible refine w_eqI ?_
  | with_reducible refine w_neI ?_
  | with_reducible refine w_U ?_
  | with_reducible refine w_test ?_
  | with_reducible refine w_B ?_
  | with_reducible refine w_bl ?_
  | with_reducible refine w_int ?_
  | with_reducible refine w_and ?_
  | with_reducible refine w_or ?_
  | with_reducible refine w_not ?_
  | with_reducible refine w_notV ?_
  | with_reducible refine w_andV ?_
  | with_reducible refine w_orV ?_
  | with_reducible refine w_ifE ?_
  | with_reducible refine iteF ?_
  | with_reducible refine iteT ?_
  | with_reducible refine iteNT ?_
  | with_reducible refine iteNF ?_
  | with_reducible refine w_sub ?_
  | with_reducible refine w_gcons ?_
  | with_reducible refine w_gnil ?_
  | ((with_reducible refine w_unl (xs := ?xs) ?h ?hl ?_); (case h => walk_at "sq"); (case hl => rfl))
  | with_reducible refine w_nilA ?_
  | with_reducible refine w_consA ?_
  | with_reducible refine w_cb ?_
  | with_reducible refine w_call ?_
  | with_reducible refine w_abs ?_
  | with_reducible refine w_intB ?_
  | with_reducible refine w_lst ?_
  | with_reducible refine w_tup ?_
  | with_reducible refine w_sl ?_
  | with_reducible refine w_part ?_
  | with_reducible refine w_noPart ?_
  | with_reducible refine w_bm ?_
  | with_reducible refine w_for ?_
  | with_reducible refine w_lc ?_
  | with_reducible refine w_rng1 ?_
  | with_reducible refine w_rng2 ?_
  | with_reducible refine w_iL ?_
  | with_reducible refine w_iT ?_
  | with_reducible refine w_turnY ?_
  | with_reducible refine w_turn ?_
  | ((with_reducible refine w_name ?_); dsimp only [List.set_cons_zero, List.set_cons_succ])
  | ((with_reducible refine w_lenL (xs := ?xs) ?h ?_); (case h => walk_at "sq"))
  | ((with_reducible refine w_ixL (xs := ?xs) (v := ?v) ?h ?ha ?_); (case h => walk_at "sq"); (case ha => rfl))
  | ((with_reducible refine w_tyL (xs := ?xs) ?h ?_); (case h => assumption))
  )
local macro_rules | `(tactic| walk_at "rd") => `(tactic| repeat walk_at "rd1")

/-- the pen: the script, a place, a rest -/
def Pen (K : PySem.W.Frag) (H : Hp) (p : Addr) : Prop := ∃ (sc : Addr) (ns : List Int) (at' gr : Int), H p = some (.lst [.ref sc, .int at', .int gr]) ∧ Fz K H sc (ns.map V.int) ∧ 0 ≤ at' ∧ 0 ≤ gr
theorem Pen.keep {K : PySem.W.Frag} {H H' : Hp} {p : Addr} (h : Pen K H p) (c : Ch [] H H') : Pen K H' p :=
  let ⟨sc, ns, a, g, h1, h2, h3⟩ := h
  ⟨sc, ns, a, g, c.lst h1, c.fz h2, h3⟩
theorem Pen.but {K : PySem.W.Frag} {H H' : Hp} {p q : Addr} (h : Pen K H p) (c : Ch [q] H H') (n : p ≠ q) : Pen K H' p :=
  let ⟨sc, ns, a, g, h1, h2, h3⟩ := h
  ⟨sc, ns, a, g, c.but h1 n, c.fz h2, h3⟩
theorem Pen.ne {K : PySem.W.Frag} {H : Hp} {p q : Addr} (h : Pen K H p) (n : H q = none) : p ≠ q :=
  let ⟨_, _, _, _, h1, _⟩ := h
  ne_new h1 n
theorem free_pen {K : PySem.W.Frag} {H H' : Hp} {p l : Addr} (c : Ch [p] H H') (hp : Pen K H' p) (h : H' l = none) : H l = none := by
  cases q : H l with
  | none => rfl
  | some o =>
    by_cases e : l = p
    · exact absurd e (Ne.symm (hp.ne h))
    · rw [c.but q e] at h
      cases h
def sp_ldraw (K : PySem.W.Frag) : Sp := fun vs H Q _ => ∃ (p : Addr) (m : Int), vs = [.ref p, .int m] ∧ Pen K H p ∧ 0 < m ∧ m < 1073741824 ∧ ∀ r H', 0 ≤ r → r < m → Ch [p] H H' → Pen K H' p → Q (.int r) H'
def t_ldraw (K : PySem.W.Frag) : TS :=
    (tSeq (tIfS (tTest (tOp rGt (tOp (rIxL K) (tVar 0) (tC (.int 2))) (tC (.int 0)))) (tSeq (tAsg (tOp rMod (tOp (rIxL K) (tVar 0) (tC (.int 2))) (tVar 1)) (gName 2))
    (tSeq (tAsg (tOp rDiv (tOp (rIxL K) (tVar 0) (tC (.int 2))) (tVar 1)) (gSub (tVar 0) (tC (.int 2)) rSetL))
    (tRet (tVar 2)))) tNext)
    (tSeq (tAsg (tSl (rSlL K) (tVar 0) tNoPart (tPart (tC (.int 2)))) (gUnl K 2 (gCons (gName 3) (gCons (gName 4) gNil))))
    (tSeq (tAsg (tOp rAdd (tVar 4) (tC (.int 1))) (gSub (tVar 0) (tC (.int 1)) rSetL))
    (tSeq (tAsg (tC (.int 7)) (gName 5))
    (tCut (tIfS (tTest (tOp rGt (tCB (rLenL K) (tCons (tVar 3) tNil)) (tC (.int 0)))) (tAsg (tOp (rIxL K) (tVar 3) (tOp rMod (tVar 4) (tCB (rLenL K) (tCons (tVar 3) tNil)))) (gName 5)) tNext)
    (tSeq (tIfS (tAnd (tTest (tOp rLt (tVar 4) (tCB (rLenL K) (tCons (tVar 3) tNil)))) (tTest (tOp rGe (tCB rAbs (tCons (tVar 5) tNil)) (tOp rPow (tC (.int 10)) (tC (.int 18)))))) (tSeq (tAsg (tOp rDiv (tCB rAbs (tCons (tVar 5) tNil)) (tVar 1)) (gSub (tVar 0) (tC (.int 2)) rSetL))
    (tRet (tOp rMod (tCB rAbs (tCons (tVar 5) tNil)) (tVar 1)))) tNext)
    (tSeq (tAsg (tOp rMod (tOp rMul (tOp rAdd (tOp rAdd (tOp rMod (tVar 5) (tC (.int 2147483629))) (tOp rMul (tC (.int 50021)) (tVar 4))) (tC (.int 11))) (tC (.int 48271))) (tC (.int 2147483647))) (gName 6))
    (tSeq (tAsg (tOp rMod (tOp rAdd (tOp rAdd (tOp rMul (tVar 6) (tVar 6)) (tOp rMul (tC (.int 69621)) (tVar 6))) (tOp rMul (tC (.int 13)) (tVar 4))) (tC (.int 2147483587))) (gName 7))
    (tRet (tOp rMod (tOp rDiv (tOp rMod (tOp rMul (tVar 7) (tOp rAdd (tOp rMod (tVar 7) (tC (.int 65521))) (tC (.int 3)))) (tC (.int 2147483579))) (tC (.int 64))) (tVar 1)))))))))))

theorem len_ldraw (K : PySem.W.Frag) : ∀ vs H Q E, sp_ldraw K vs H Q E → vs.length = 2 := by
  rintro vs H Q E ⟨p, m, rfl, _⟩
  rfl
theorem rd_ldraw {K : PySem.W.Frag} {H : Hp} {vs : List V} {Q : VK} {E : XK} {N : List Str} (h : sp_ldraw K vs H Q E) (hN : N.length = 8 := by rfl) : t_ldraw K { nx := fun _ H' => Q .non H', rt := Q } (start N vs) H := by
  obtain ⟨p, m, rfl, ⟨scr, ns, at', gr, hp, hs, h0, h1⟩, m0, m1, k⟩ := h
  refine w_start (σ := [some (.ref p), some (.int m), none, none, none, none, none, none]) (by simp [L2.start, hN]) ?_
  unfold t_ldraw
  walk_at "rd"
  refine w_ite (fun hg => ?_) (fun hg => ?_)
  · walk_at "rd"
    refine w_setL hp rfl fun H1 c1 e1 => ?_
    walk_at "rd"
    exact k _ _ (Int.emod_nonneg _ (by omega)) (Int.emod_lt_of_pos _ m0) c1 ⟨scr, ns, at', gr / m, e1, c1.fz hs, h0, Int.ediv_nonneg h1 (by omega)⟩
  · walk_at "rd"
    refine w_slL (SqL.of hp) fun l H1 hl c1 e1 => ?_
    replace e1 : H1 l = some (.lst [.ref scr, .int at']) := e1
    have hp1 := c1.lst hp
    walk_at "rd"
    refine w_setL hp1 rfl fun H2 c2 e2 => ?_
    replace e2 : H2 p = some (.lst [.ref scr, .int (at' + 1), .int gr]) := e2
    have hs2 := c2.fz (c1.fz hs)
    have c12 : Ch [p] H H2 := c1.wide.trans c2
    walk_at "rd"
    refine w_cut (fun σ' H' => H' = H2 ∧ ∃ c : Int, σ' = [some (.ref p), some (.int m), none, some (.ref scr), some (.int at'), some (.int c), none, none]) ?_ ?_
    · walk_at "rd"
      refine w_ite (fun hn => ?_) (fun hn => ?_)
      · walk_at "rd"
        rw [List.length_map] at hn ⊢
        refine w_ixLI hs2.sql (Int.emod_nonneg _ (by omega)) (Int.emod_lt_of_pos _ hn) ?_
        exact ⟨rfl, _, rfl⟩
      · exact ⟨rfl, 7, rfl⟩
    · rintro σ' H' ⟨rfl, c, rfl⟩
      have pen : ∀ g, 0 ≤ g → ∀ H3, H3 p = some (.lst [.ref scr, .int (at' + 1), .int g]) → Ch [p] H' H3 → Pen K H3 p := fun g g0 H3 e3 c3 => ⟨scr, ns, at' + 1, g, e3, c3.fz hs2, by omega, g0⟩
      have last : ∀ r : Int, 0 ≤ r → r < m → Q (.int r) H' := fun r r0 r1 => k _ _ r0 r1 c12 (pen gr h1 H' e2 .refl)
      walk_at "rd"
      refine w_ite (fun hn => ?_) (fun hn => ?_)
      · walk_at "rd"
        refine w_ite (fun hc => ?_) (fun hc => ?_)
        · walk_at "rd"
          refine w_setL e2 rfl fun H3 c3 e3 => ?_
          walk_at "rd"
          exact k _ _ (Int.emod_nonneg _ (by omega)) (Int.emod_lt_of_pos _ m0) (c12.trans c3) (pen _ (Int.ediv_nonneg (by omega) (by omega)) H3 e3 c3)
        · walk_at "rd"
          exact last _ (Int.emod_nonneg _ (by omega)) (Int.emod_lt_of_pos _ m0)
      · walk_at "rd"
        exact last _ (Int.emod_nonneg _ (by omega)) (Int.emod_lt_of_pos _ m0)
/-! the mathematics of law k07: sums with choices, and back -/
/-- how many choices of k out of n, row by row -/
def C : Nat → Nat → Nat
  | _, 0 => 1
  | 0, _ + 1 => 0
  | n + 1, k + 1 => C n k + C n (k + 1)
theorem C_step : ∀ n, n ≤ 6 → ∀ k, k < n → C n k * (n - k) / (k + 1) = C n (k + 1) := by decide
theorem C_le : ∀ n, n ≤ 6 → ∀ k, k ≤ 6 → C n k ≤ 20 := by decide
theorem C_pos : ∀ n, n ≤ 6 → ∀ k, k ≤ n → 0 < C n k := by decide
/-- a term of the sum -/
def tm (sg : Int) (xs : List Int) (k i : Nat) : Int := xs.getD i 0 * (C (xs.length - 1 - i) (k - i) : Int) * (if (k - i) % 2 = 0 then 1 else sg)
/-- the sum of the first m terms -/
def sm (sg : Int) (xs : List Int) (k : Nat) : Nat → Int
  | 0 => 0
  | m + 1 => sm sg xs k m + tm sg xs k m
def bf (sg : Int) (xs : List Int) : List Int := (List.range xs.length).map fun k => sm sg xs k (k + 1)
theorem bf_length (sg : Int) (xs : List Int) : (bf sg xs).length = xs.length := by simp [bf]
theorem bf_back (sg : Int) (h : sg = 1 ∨ sg = -1) (xs : List Int) (h0 : 1 ≤ xs.length) (h1 : xs.length ≤ 7) : bf (-sg) (bf sg xs) = xs := by
  rcases h with rfl | rfl <;>
  · match xs, h0, h1 with
    | [a], _, _ => simp [bf, sm, tm, C, List.range_succ]
    | [a, b], _, _ => simp [bf, sm, tm, C, List.range_succ]; try omega
    | [a, b, c], _, _ => simp [bf, sm, tm, C, List.range_succ]; try omega
    | [a, b, c, d], _, _ => simp [bf, sm, tm, C, List.range_succ]; try omega
    | [a, b, c, d, e], _, _ => simp [bf, sm, tm, C, List.range_succ]; try omega
    | [a, b, c, d, e, f], _, _ => simp [bf, sm, tm, C, List.range_succ]; try omega
    | [a, b, c, d, e, f, g], _, _ => simp [bf, sm, tm, C, List.range_succ]; try omega
    | a :: b :: c :: d :: e :: f :: g :: i :: r, _, h => simp at h
theorem getD_le {M : Nat} {xs : List Int} (h : ∀ x ∈ xs, x.natAbs ≤ M) (i : Nat) : (xs.getD i 0).natAbs ≤ M := by
  rw [List.getD_eq_getElem?_getD]
  cases e : xs[i]? with
  | none => simp
  | some x => exact h x (List.mem_of_getElem? e)
theorem tm_le {M : Nat} {sg : Int} (hs : sg = 1 ∨ sg = -1) {xs : List Int} (h1 : xs.length ≤ 7) (h : ∀ x ∈ xs, x.natAbs ≤ M) {k i : Nat} (hk : k ≤ 6) : (tm sg xs k i).natAbs ≤ 20 * M := by
  have e : (if (k - i) % 2 = 0 then (1 : Int) else sg).natAbs = 1 := by
    split
    · rfl
    · rcases hs with rfl | rfl <;> rfl
  have h2 := getD_le h i
  have h3 := C_le (xs.length - 1 - i) (by omega) (k - i) (by omega)
  unfold tm
  rw [Int.natAbs_mul, Int.natAbs_mul, e, Nat.mul_one, Int.natAbs_natCast, Nat.mul_comm 20 M]
  exact Nat.mul_le_mul h2 h3
theorem sm_le {M : Nat} {sg : Int} (hs : sg = 1 ∨ sg = -1) {xs : List Int} (h1 : xs.length ≤ 7) (h : ∀ x ∈ xs, x.natAbs ≤ M) {k : Nat} (hk : k ≤ 6) : ∀ m, (sm sg xs k m).natAbs ≤ m * (20 * M)
  | 0 => by simp [sm]
  | m + 1 => by
    have h2 := sm_le hs h1 h hk m
    have h3 := tm_le hs h1 h hk (i := m)
    have h4 := Int.natAbs_add_le (sm sg xs k m) (tm sg xs k m)
    show (sm sg xs k m + tm sg xs k m).natAbs ≤ _
    rw [Nat.succ_mul]
    omega
theorem bf_le {M : Nat} {sg : Int} (hs : sg = 1 ∨ sg = -1) {xs : List Int} (h1 : xs.length ≤ 7) (h : ∀ x ∈ xs, x.natAbs ≤ M) : ∀ y ∈ bf sg xs, y.natAbs ≤ 140 * M := by
  intro y hy
  obtain ⟨k, hk, rfl⟩ := List.mem_map.mp hy
  have hk' : k < xs.length := List.mem_range.mp hk
  have h2 := sm_le hs h1 h (k := k) (by omega) (k + 1)
  have h3 : (k + 1) * (20 * M) ≤ 7 * (20 * M) := Nat.mul_le_mul_right _ (by omega)
  omega

theorem atI_natI {α : Type} (xs : List α) (n : Nat) : atI xs (n : Int) = xs[n]? := by
  cases e : xs[n]? with
  | some v => exact atI_nat e
  | none =>
    have h : xs.length ≤ n := List.getElem?_eq_none_iff.mp e
    unfold atI ixN
    rw [if_pos (by omega), if_neg (by omega)]
    rfl
/-! ### choices -/
def sp_choices (K : PySem.W.Frag) : Sp := fun vs H Q _ => ∃ n m : Nat, vs = [.int n, .int m] ∧ m ≤ n ∧ n ≤ 6 ∧ Q (.int (C n m)) H
def t_choices (K : PySem.W.Frag) : TS :=
    (tSeq (tAsg (tC (.int 1)) (gName 2))
    (tSeq (tFor (iRng1 (tCons (tVar 1) tNil)) (gName 3)
    (tAsg (tOp rDiv (tOp rMul (tVar 2) (tOp rSub (tVar 0) (tVar 3))) (tOp rAdd (tVar 3) (tC (.int 1)))) (gName 2)))
    (tRet (tVar 2))))

theorem len_choices (K : PySem.W.Frag) : ∀ vs H Q E, sp_choices K vs H Q E → vs.length = 2 := by
  rintro vs H Q E ⟨n, m, rfl, _⟩
  rfl
theorem rd_choices {K : PySem.W.Frag} {H : Hp} {vs : List V} {Q : VK} {E : XK} {N : List Str} (h : sp_choices K vs H Q E) (hN : N.length = 4 := by rfl) : t_choices K { nx := fun _ H' => Q .non H', rt := Q } (start N vs) H := by
  obtain ⟨n, m, rfl, h1, h2, k⟩ := h
  refine w_start (σ := [some (.int n), some (.int m), none, none]) (by simp [L2.start, hN]) ?_
  unfold t_choices
  walk_at "rd"
  refine w_rngN rfl (by omega) ?_
  refine w_forR (fun i σ' H' => H' = H ∧ ∃ o, σ' = [some (.int n), some (.int m), some (.int (C n i)), o]) ⟨rfl, none, by simp [C]⟩ ?_ ?_
  · rintro i σ' H' hi ⟨rfl, o, rfl⟩
    dsimp only [List.set_cons_zero, List.set_cons_succ]
    have hc := C_le n h2 i (by omega)
    have hs := C_step n h2 i (by omega)
    walk_at "rd"
    have e : ((C n i : Int) * ((n : Int) - (i : Int)) / ((i : Int) + 1)) = ((C n (i + 1) : Nat) : Int) := by
      rw [← hs, Int.natCast_ediv, Int.natCast_mul, Int.natCast_sub (by omega)]
      rfl
    exact ⟨rfl, _, by rw [e]⟩
  · rintro σ' H' ⟨rfl, o, rfl⟩
    walk_at "rd"
    exact k
/-! ### brought_from, counts_from: the sums with signs or without -/
def sp_bf (K : PySem.W.Frag) (sg : Int) : Sp := fun vs H Q _ => ∃ (l : Addr) (ns : List Int), vs = [.ref l] ∧ SqL K H l (ns.map V.int) ∧ 1 ≤ ns.length ∧ ns.length ≤ 7 ∧
  ∀ p H', H p = none → Ch [] H H' → H' p = some (.lst ((bf sg ns).map V.int)) → Q (.ref p) H'
abbrev sp_brought_from (K : PySem.W.Frag) : Sp := sp_bf K (-1)
abbrev sp_counts_from (K : PySem.W.Frag) : Sp := sp_bf K 1
theorem len_bf (K : PySem.W.Frag) (sg : Int) : ∀ vs H Q E, sp_bf K sg vs H Q E → vs.length = 1 := by
  rintro vs H Q E ⟨n, m, rfl, _⟩
  rfl
theorem len_brought_from (K : PySem.W.Frag) : ∀ vs H Q E, sp_bf K (-1) vs H Q E → vs.length = 1 := len_bf K (-1)
theorem len_counts_from (K : PySem.W.Frag) : ∀ vs H Q E, sp_bf K 1 vs H Q E → vs.length = 1 := len_bf K 1
theorem bf_take (sg : Int) (ns : List Int) (k : Nat) (h : k < ns.length) : ((bf sg ns).take (k + 1)).map V.int = ((bf sg ns).take k).map V.int ++ [.int (sm sg ns k (k + 1))] := by
  rw [List.take_add_one, List.map_append]
  have e : (bf sg ns)[k]? = some (sm sg ns k (k + 1)) := by
    unfold bf
    rw [List.getElem?_map, List.getElem?_range h]
    rfl
  rw [e]
  rfl
theorem bf_all (sg : Int) (ns : List Int) : (bf sg ns).take ns.length = bf sg ns := List.take_of_length_le (by rw [bf_length]; exact Nat.le_refl _)
def t_brought_from (K : PySem.W.Frag) : TS :=
    (tSeq (tAsg (tOp rSub (tCB (rLenL K) (tCons (tVar 0) tNil)) (tC (.int 1))) (gName 1))
    (tSeq (tAsg (tLst tNil) (gName 2))
    (tSeq (tFor (iRng1 (tCons (tOp rAdd (tVar 1) (tC (.int 1))) tNil)) (gName 3)
    (tSeq (tAsg (tC (.int 0)) (gName 4))
    (tSeq (tFor (iRng1 (tCons (tOp rAdd (tVar 3) (tC (.int 1))) tNil)) (gName 5)
    (tSeq (tAsg (tOp rMul (tOp (rIxL K) (tVar 0) (tVar 5)) (tCall (sp_choices K) [] E0 (tCons (tOp rSub (tVar 1) (tVar 5)) (tCons (tOp rSub (tVar 3) (tVar 5)) tNil)))) (gName 6))
    (tAsg (tOp rAdd (tVar 4) (tOp (rIxL K) (tLst (tCons (tVar 6) (tCons (tOp rSub (tC (.int 0)) (tVar 6)) tNil))) (tOp rMod (tOp rSub (tVar 3) (tVar 5)) (tC (.int 2))))) (gName 4))))
    (tDrop (tBM K "list" rAppend (tVar 2) (tCons (tVar 4) tNil))))))
    (tRet (tVar 2)))))

theorem rd_brought_from {K : PySem.W.Frag} {H : Hp} {vs : List V} {Q : VK} {E : XK} {N : List Str} (h : sp_bf K (-1) vs H Q E) (hN : N.length = 7 := by rfl) : t_brought_from K { nx := fun _ H' => Q .non H', rt := Q } (start N vs) H := by
  obtain ⟨l, ns, rfl, hl, h1, h2, k⟩ := h
  refine w_start (σ := [some (.ref l), none, none, none, none, none, none]) (by simp [L2.start, hN]) ?_
  unfold t_brought_from
  walk_at "rd"
  refine w_newA (Nat.zero_le _) fun p H1 hp c1 e1 => ?_
  walk_at "rd"
  refine w_rngN (n := ns.length) (by rw [List.length_map]; omega) (by omega) ?_
  refine w_forR (fun i σ' H' => Ch [] H H' ∧ H' p = some (.lst (((bf (-1) ns).take i).map V.int)) ∧ ∃ o3 o4 o5 o6, σ' = [some (.ref l), some (.int ((ns.map V.int).length - 1)), some (.ref p), o3, o4, o5, o6]) ⟨c1, e1, none, none, none, none, rfl⟩ ?_ ?_
  · rintro i σ' H' hi ⟨c, e, o3, o4, o5, o6, rfl⟩
    dsimp only [List.set_cons_zero, List.set_cons_succ]
    walk_at "rd"
    refine w_rngN (n := i + 1) (by omega) (by omega) ?_
    refine w_forR (fun j σ' H' => Ch [] H H' ∧ H' p = some (.lst (((bf (-1) ns).take i).map V.int)) ∧ ∃ o5 o6, σ' = [some (.ref l), some (.int ((ns.map V.int).length - 1)), some (.ref p), some (.int i), some (.int (sm (-1) ns i j)), o5, o6]) ⟨c, e, o5, o6, rfl⟩ ?_ ?_
    · rintro j σ' H2 hj ⟨c, e, o5, o6, rfl⟩
      dsimp only [List.set_cons_zero, List.set_cons_succ]
      walk_at "rd"
      refine w_ixLI (c.sql hl) (by omega) (by omega) ?_
      walk_at "rd"
      refine ⟨ns.length - 1 - j, i - j, ?_, by omega, by omega, ?_⟩
      · simp only [List.length_map, List.cons_append, List.nil_append, List.cons.injEq, V.int.injEq, and_true]
        omega
      have hc := C_le (ns.length - 1 - j) (by omega) (i - j) (by omega)
      walk_at "rd"
      refine w_newA (by show 2 ≤ sizeLine; decide) fun q H3 hq c3 e3 => ?_
      walk_at "rd"
      refine w_ixL (SqL.of e3) (v := .int (tm (-1) ns i j)) ?_ ?_
      · have e2 : ((i : Int) - (j : Int)) % 2 = (((i - j) % 2 : Nat) : Int) := by omega
        rw [e2, atI_natI]
        unfold tm
        rcases Nat.mod_two_eq_zero_or_one (i - j) with e4 | e4
        · rw [e4, if_pos rfl, Int.mul_one]
          rfl
        · rw [e4, if_neg (by decide), Int.mul_neg, Int.mul_one, Int.zero_sub]
          rfl
      walk_at "rd"
      refine ⟨c.trans c3, c3.lst e, _, _, rfl⟩
    · rintro σ' H2 ⟨c, e, o5, o6, rfl⟩
      walk_at "rd"
      refine w_app e (by rw [sizeLine_eq, List.length_map, List.length_take, bf_length]; omega) fun H3 c3 e3 => ?_
      rw [← bf_take (-1) ns i hi] at e3
      exact ⟨Ch.old c hp c3, e3, _, _, _, _, rfl⟩
  · rintro σ' H' ⟨c, e, o3, o4, o5, o6, rfl⟩
    walk_at "rd"
    rw [bf_all] at e
    exact k p H' hp c e

theorem sm_eq (sg : Int) (xs : List Int) (k : Nat) : ∀ m, ((List.range m).map (tm sg xs k)).sum = sm sg xs k m
  | 0 => rfl
  | m + 1 => by
    rw [List.range_succ, List.map_append, List.sum_append, sm_eq sg xs k m]
    simp [sm]
theorem range_put {α : Type} (f : Nat → Int) (j : Nat) : ((List.range (j + 1)).map f).map V.int = ((List.range j).map f).map V.int ++ [.int (f j)] := by
  rw [List.range_succ, List.map_append, List.map_append]
  rfl
def t_counts_from (K : PySem.W.Frag) : TS :=
    (tSeq (tAsg (tOp rSub (tCB (rLenL K) (tCons (tVar 0) tNil)) (tC (.int 1))) (gName 1))
    (tSeq (tAsg (tLst tNil) (gName 2))
    (tSeq (tFor (iRng1 (tCons (tOp rAdd (tVar 1) (tC (.int 1))) tNil)) (gName 3)
    (tDrop (tBM K "list" rAppend (tVar 2) (tCons (tCB (rSum K) (tCons (tLc (iRng1 (tCons (tOp rAdd (tVar 3) (tC (.int 1))) tNil)) (gName 4) tYes (tOp rMul (tOp (rIxL K) (tVar 0) (tVar 4)) (tCall (sp_choices K) [] E0 (tCons (tOp rSub (tVar 1) (tVar 4)) (tCons (tOp rSub (tVar 3) (tVar 4)) tNil)))) [4]) tNil)) tNil))))
    (tRet (tVar 2)))))

theorem rd_counts_from {K : PySem.W.Frag} {H : Hp} {vs : List V} {Q : VK} {E : XK} {N : List Str} (h : sp_bf K 1 vs H Q E) (hN : N.length = 5 := by rfl) : t_counts_from K { nx := fun _ H' => Q .non H', rt := Q } (start N vs) H := by
  obtain ⟨l, ns, rfl, hl, h1, h2, k⟩ := h
  refine w_start (σ := [some (.ref l), none, none, none, none]) (by simp [L2.start, hN]) ?_
  unfold t_counts_from
  walk_at "rd"
  refine w_newA (Nat.zero_le _) fun p H1 hp c1 e1 => ?_
  walk_at "rd"
  refine w_rngN (n := ns.length) (by rw [List.length_map]; omega) (by omega) ?_
  refine w_forR (fun i σ' H' => Ch [] H H' ∧ H' p = some (.lst (((bf 1 ns).take i).map V.int)) ∧ ∃ o3 o4, σ' = [some (.ref l), some (.int ((ns.map V.int).length - 1)), some (.ref p), o3, o4]) ⟨c1, e1, none, none, rfl⟩ ?_ ?_
  · rintro i σ' H' hi ⟨c, e, o3, o4, rfl⟩
    dsimp only [List.set_cons_zero, List.set_cons_succ]
    walk_at "rd"
    refine w_rngN (n := i + 1) (by omega) (by omega) ?_
    refine w_lcR (fun L j acc H2 => Ch [] H H2 ∧ H2 p = some (.lst (((bf 1 ns).take i).map V.int)) ∧ acc = ((List.range j).map (tm 1 ns i)).map V.int) ?_ (fun _ => rfl) ?_ ?_
    · intro L H2 hL c2 e2
      exact ⟨c.trans c2, c2.lst e, rfl⟩
    · rintro L j acc H2 hL hj ha e2 ⟨c2, e3, rfl⟩
      dsimp only [wipe, List.set_cons_zero, List.set_cons_succ]
      walk_at "rd"
      refine w_ixLI (c2.sql hl) (by omega) (by omega) ?_
      walk_at "rd"
      refine ⟨ns.length - 1 - j, i - j, ?_, by omega, by omega, ?_⟩
      · simp only [List.length_map, List.cons_append, List.nil_append, List.cons.injEq, V.int.injEq, and_true]
        omega
      have hc := C_le (ns.length - 1 - j) (by omega) (i - j) (by omega)
      walk_at "rd"
      refine w_lcput e2 ha (by omega) fun H5 c5 e5 => ?_
      have et : tm 1 ns i j = ns.getD (j : Int).toNat 0 * ((C (ns.length - 1 - j) (i - j) : Nat) : Int) := by
        unfold tm
        rw [show (if (i - j) % 2 = 0 then (1 : Int) else 1) = 1 by split <;> rfl, Int.mul_one]
        rfl
      refine ⟨Ch.old c2 (c.free hL) c5, c5.but e3 (ne_new e hL), ?_⟩
      rw [range_put (α := Int), et]
    · rintro L acc H2 hL e2 ⟨c2, e3, rfl⟩
      walk_at "rd"
      refine w_sum (SqL.of e2) ?_
      rw [sm_eq]
      walk_at "rd"
      refine w_app e3 (by rw [sizeLine_eq, List.length_map, List.length_take, bf_length]; omega) fun H3 c3 e4 => ?_
      rw [← bf_take 1 ns i hi] at e4
      exact ⟨Ch.old c2 hp c3, e4, _, _, rfl⟩
  · rintro σ' H' ⟨c, e, o3, o4, rfl⟩
    walk_at "rd"
    rw [bf_all] at e
    exact k p H' hp c e
/-! ### the law's own: numbers -/
def sp_lwide (K : PySem.W.Frag) : Sp := fun vs H Q _ => ∃ (p : Addr) (m : Int), vs = [.ref p, .int m] ∧ Pen K H p ∧ 0 < m ∧ m.natAbs < 10 ^ 100 ∧ ∀ r H', 0 ≤ r → r < m → Ch [p] H H' → Pen K H' p → Q (.int r) H'
def t_lwide (K : PySem.W.Frag) : TS :=
    (tSeq (tAsg (tC (.int 0)) (gName 2))
    (tSeq (tFor (iRng1 (tCons (tOp rAdd (tOp rDiv (tCB rLenStr (tCons (tCB rStr (tCons (tVar 1) tNil)) tNil)) (tC (.int 6))) (tC (.int 1))) tNil)) (gName 3)
    (tAsg (tOp rAdd (tOp rMul (tVar 2) (tOp rPow (tC (.int 10)) (tC (.int 6)))) (tCall (sp_ldraw K) [] E0 (tCons (tVar 0) (tCons (tOp rPow (tC (.int 10)) (tC (.int 6))) tNil)))) (gName 2)))
    (tRet (tOp rMod (tVar 2) (tVar 1)))))

theorem len_lwide (K : PySem.W.Frag) : ∀ vs H Q E, sp_lwide K vs H Q E → vs.length = 2 := by
  rintro vs H Q E ⟨p, m, rfl, _⟩
  rfl
theorem rd_lwide {K : PySem.W.Frag} {H : Hp} {vs : List V} {Q : VK} {E : XK} {N : List Str} (h : sp_lwide K vs H Q E) (hN : N.length = 4 := by rfl) : t_lwide K { nx := fun _ H' => Q .non H', rt := Q } (start N vs) H := by
  obtain ⟨p, m, rfl, hp, m0, m1, k⟩ := h
  refine w_start (σ := [some (.ref p), some (.int m), none, none]) (by simp [L2.start, hN]) ?_
  unfold t_lwide
  have hl : (Str.ofString (toString m)).length ≤ 101 := int_le (by decide) m1
  walk_at "rd"
  refine w_str (log_small (by decide) m1) ?_
  walk_at "rd"
  refine w_lenS (by rw [sizeLine_eq]; omega) ?_
  walk_at "rd"
  refine w_rngN (n := (Str.ofString (toString m)).length / 6 + 1) (by omega) (by omega) ?_
  refine w_forR (fun i σ' H' => Ch [p] H H' ∧ Pen K H' p ∧ ∃ (x : Int) (o : Option V), 0 ≤ x ∧ σ' = [some (.ref p), some (.int m), some (.int x), o]) ⟨.refl, hp, 0, none, by decide, rfl⟩ ?_ ?_
  · rintro i σ' H' hi ⟨c, hp, x, o, h0, rfl⟩
    dsimp only [List.set_cons_zero, List.set_cons_succ]
    walk_at "rd"
    refine ⟨p, _, rfl, hp, by decide, by decide, fun r H2 r0 r1 c2 hp2 => ?_⟩
    walk_at "rd"
    refine ⟨c.trans c2, hp2, _, _, ?_, rfl⟩
    have := Int.mul_nonneg h0 (show (0 : Int) ≤ 10 ^ (Int.toNat 6) by decide)
    omega
  · rintro σ' H' ⟨c, hp, x, o, h0, rfl⟩
    walk_at "rd"
    exact k _ _ (Int.emod_nonneg _ (by omega)) (Int.emod_lt_of_pos _ m0) c hp
def sp_lnumber (K : PySem.W.Frag) : Sp := fun vs H Q _ => ∃ (p : Addr) (y : Int), vs = [.ref p, .int y] ∧ Pen K H p ∧ ∀ r H', r.natAbs ≤ 10 ^ 60 → Ch [p] H H' → Pen K H' p → Q (.int r) H'
def t_lnumber (K : PySem.W.Frag) : TS :=
    (tSeq (tAsg (tOp rSub (tC (.int 1)) (tOp rMul (tC (.int 2)) (tCall (sp_ldraw K) [] E0 (tCons (tVar 0) (tCons (tC (.int 2)) tNil))))) (gName 2))
    (tSeq (tIfS (tTest (tOp rEq (tVar 1) (tC (.int 0)))) (tRet (tOp rSub (tCall (sp_ldraw K) [] E0 (tCons (tVar 0) (tCons (tC (.int 50)) tNil))) (tC (.int 10)))) tNext)
    (tSeq (tIfS (tTest (tOp rEq (tVar 1) (tC (.int 1)))) (tRet (tOp rMul (tCall (sp_ldraw K) [] E0 (tCons (tVar 0) (tCons (tC (.int 9)) tNil))) (tCB rIntB (tCons (tOp rEq (tCall (sp_ldraw K) [] E0 (tCons (tVar 0) (tCons (tC (.int 4)) tNil))) (tC (.int 0))) tNil)))) tNext)
    (tSeq (tIfS (tTest (tOp rEq (tVar 1) (tC (.int 2)))) (tRet (tOp rMul (tVar 2) (tCall (sp_lwide K) [] E0 (tCons (tVar 0) (tCons (tOp rPow (tC (.int 10)) (tC (.int 60))) tNil))))) tNext)
    (tRet (tOp rMul (tVar 2) (tOp (rIxL K) (tLst (tCons (tOp rSub (tOp rPow (tC (.int 10)) (tC (.int 60))) (tC (.int 1))) (tCons (tOp rPow (tC (.int 10)) (tC (.int 59))) (tCons (tC (.int 1)) (tCons (tC (.int 0)) tNil))))) (tCall (sp_ldraw K) [] E0 (tCons (tVar 0) (tCons (tC (.int 4)) tNil))))))))))

theorem len_lnumber (K : PySem.W.Frag) : ∀ vs H Q E, sp_lnumber K vs H Q E → vs.length = 2 := by
  rintro vs H Q E ⟨p, m, rfl, _⟩
  rfl
theorem rd_lnumber {K : PySem.W.Frag} {H : Hp} {vs : List V} {Q : VK} {E : XK} {N : List Str} (h : sp_lnumber K vs H Q E) (hN : N.length = 3 := by rfl) : t_lnumber K { nx := fun _ H' => Q .non H', rt := Q } (start N vs) H := by
  obtain ⟨p, y, rfl, hp, k⟩ := h
  refine w_start (σ := [some (.ref p), some (.int y), none]) (by simp [L2.start, hN]) ?_
  unfold t_lnumber
  walk_at "rd"
  refine ⟨p, _, rfl, hp, by decide, by decide, fun s H1 s0 s1 c1 hp1 => ?_⟩
  walk_at "rd"
  refine w_ite (fun hy => ?_) (fun hy => ?_)
  · walk_at "rd"
    refine ⟨p, _, rfl, hp1, by decide, by decide, fun r H2 r0 r1 c2 hp2 => ?_⟩
    walk_at "rd"
    exact k _ _ (by omega) (c1.trans c2) hp2
  walk_at "rd"
  refine w_ite (fun hy => ?_) (fun hy => ?_)
  · walk_at "rd"
    refine ⟨p, _, rfl, hp1, by decide, by decide, fun r H2 r0 r1 c2 hp2 => ?_⟩
    walk_at "rd"
    refine ⟨p, _, rfl, hp2, by decide, by decide, fun t H3 t0 t1 c3 hp3 => ?_⟩
    walk_at "rd"
    refine k _ _ ?_ ((c1.trans c2).trans c3) hp3
    split <;> omega
  walk_at "rd"
  refine w_ite (fun hy => ?_) (fun hy => ?_)
  · walk_at "rd"
    refine ⟨p, _, rfl, hp1, by decide, by decide +kernel, fun r H2 r0 r1 c2 hp2 => ?_⟩
    walk_at "rd"
    refine k _ _ ?_ (c1.trans c2) hp2
    replace r1 : r < 10 ^ 60 := r1
    have hs : s = 0 ∨ s = 1 := by omega
    rcases hs with rfl | rfl <;> omega
  walk_at "rd"
  refine w_newA (by show 4 ≤ sizeLine; decide) fun q H2 hq c2 e2 => ?_
  have hp2 : Pen K H2 p := hp1.keep c2
  walk_at "rd"
  refine ⟨p, _, rfl, hp2, by decide, by decide, fun r H3 r0 r1 c3 hp3 => ?_⟩
  have npq : q ≠ p := Ne.symm (hp1.ne hq)
  have e3 := c3.but e2 npq
  walk_at "rd"
  have hr : r = 0 ∨ r = 1 ∨ r = 2 ∨ r = 3 := by omega
  have hs : s = 0 ∨ s = 1 := by omega
  have fin : ∀ z : Int, z.natAbs ≤ 10 ^ 60 → Q (.int ((1 - 2 * s) * z)) H3 := fun z hz => k _ _ (by rcases hs with rfl | rfl <;> omega) ((c1.trans c2.wide).trans c3) hp3
  have cm : ∀ z : Int, CMul (1 - 2 * s) z := fun z => .inl ⟨by omega, by omega⟩
  rcases hr with rfl | rfl | rfl | rfl
  · exact w_ixL (SqL.of e3) rfl (w_mul (cm _) (fin _ (by decide +kernel)))
  · exact w_ixL (SqL.of e3) rfl (w_mul (cm _) (fin _ (by decide +kernel)))
  · exact w_ixL (SqL.of e3) rfl (w_mul (cm _) (fin _ (by decide +kernel)))
  · exact w_ixL (SqL.of e3) rfl (w_mul (cm _) (fin _ (by decide +kernel)))

def sp_llist (K : PySem.W.Frag) : Sp := fun vs H Q _ => ∃ (p : Addr), vs = [.ref p] ∧ Pen K H p ∧
  ∀ l (ns : List Int) H', H l = none → 1 ≤ ns.length → ns.length ≤ 7 → (∀ x ∈ ns, x.natAbs ≤ 10 ^ 60) → Ch [p] H H' → Pen K H' p → H' l = some (.lst (ns.map V.int)) → Q (.ref l) H'
def t_llist (K : PySem.W.Frag) : TS :=
    (tSeq (tAsg (tCall (sp_ldraw K) [] E0 (tCons (tVar 0) (tCons (tC (.int 5)) tNil))) (gName 1))
    (tSeq (tAsg (tOp rAdd (tC (.int 1)) (tCall (sp_ldraw K) [] E0 (tCons (tVar 0) (tCons (tC (.int 7)) tNil)))) (gName 2))
    (tSeq (tIfS (tTest (tOp rEq (tVar 1) (tC (.int 4)))) (tSeq (tAsg (tCall (sp_ldraw K) [] E0 (tCons (tVar 0) (tCons (tVar 2) tNil))) (gName 3))
    (tRet (tLc (iRng1 (tCons (tVar 2) tNil)) (gName 4) tYes (tOp rMul (tCB rIntB (tCons (tOp rEq (tVar 4) (tVar 3)) tNil)) (tOp rSub (tC (.int 1)) (tOp rMul (tC (.int 2)) (tCall (sp_ldraw K) [] E0 (tCons (tVar 0) (tCons (tC (.int 2)) tNil)))))) [4]))) tNext)
    (tRet (tLc (iRng1 (tCons (tVar 2) tNil)) (gName 4) tYes (tCall (sp_lnumber K) [] E0 (tCons (tVar 0) (tCons (tVar 1) tNil))) [4])))))

theorem len_llist (K : PySem.W.Frag) : ∀ vs H Q E, sp_llist K vs H Q E → vs.length = 1 := by
  rintro vs H Q E ⟨p, rfl, _⟩
  rfl
/-- a comprehension of drawn numbers -/
theorem drawn {K : PySem.W.Frag} {H : Hp} {Q : VK} {p : Addr} {n j : Nat} {te : TE} {vs : List Nat} {σ : L2.St} {B : Nat} (hp : Pen K H p) (hw : ∀ x, wipe ((wipe σ vs).set j (some x)) vs = wipe σ vs) (hn : n ≤ 1000000)
    (ht : ∀ (i : Nat) H1 (Q : VK), i < n → Ch [p] H H1 → Pen K H1 p → (∀ r H2, r.natAbs ≤ B → Ch [p] H1 H2 → Pen K H2 p → Q (.int r) H2) → te ((wipe σ vs).set j (some (.int (i : Int)))) H1 Q)
    (k : ∀ l (ns : List Int) H', H l = none → ns.length = n → (∀ x ∈ ns, x.natAbs ≤ B) → Ch [p] H H' → Pen K H' p → H' l = some (.lst (ns.map V.int)) → Q (.ref l) H') :
    LcGo (Itr 0 n) (gName j) tYes te vs σ H Q := by
  refine w_lcR (fun L i acc H' => Ch [p] H H' ∧ Pen K H' p ∧ ∃ ns : List Int, ns.length = i ∧ (∀ x ∈ ns, x.natAbs ≤ B) ∧ acc = ns.map V.int) ?_ hw ?_ ?_
  · intro L H' hL c e
    exact ⟨c.wide, hp.keep c, [], rfl, (fun _ h => nomatch h), rfl⟩
  · rintro L i acc H' hL hi ha e ⟨c, hp', ns, e1, e2, rfl⟩
    have nLp : L ≠ p := Ne.symm (hp.ne hL)
    refine w_turnY (ht i H' _ hi c hp' fun r H2 hr c2 hp2 => w_lcput (c2.but e nLp) ha (by omega) fun H5 c5 e5 => ?_)
    refine ⟨Ch.old (c.trans c2) hL c5, hp2.but c5 (Ne.symm nLp), ns ++ [r], by simp [e1], fun x hx => ?_, by simp⟩
    rcases List.mem_append.mp hx with h | h
    · exact e2 x h
    · rw [List.mem_singleton.mp h]
      exact hr
  · rintro L acc H' hL e ⟨c, hp', ns, e1, e2, rfl⟩
    exact k L ns H' hL e1 e2 c hp' e
theorem rd_llist {K : PySem.W.Frag} {H : Hp} {vs : List V} {Q : VK} {E : XK} {N : List Str} (h : sp_llist K vs H Q E) (hN : N.length = 5 := by rfl) : t_llist K { nx := fun _ H' => Q .non H', rt := Q } (start N vs) H := by
  obtain ⟨p, rfl, hp, k⟩ := h
  refine w_start (σ := [some (.ref p), none, none, none, none]) (by simp [L2.start, hN]) ?_
  unfold t_llist
  walk_at "rd"
  refine ⟨p, _, rfl, hp, by decide, by decide, fun y H1 y0 y1 c1 hp1 => ?_⟩
  walk_at "rd"
  refine ⟨p, _, rfl, hp1, by decide, by decide, fun m H2 m0 m1 c2 hp2 => ?_⟩
  walk_at "rd"
  refine w_ite (fun hy => ?_) (fun hy => ?_)
  · walk_at "rd"
    refine ⟨p, _, rfl, hp2, by omega, by omega, fun a H3 a0 a1 c3 hp3 => ?_⟩
    walk_at "rd"
    refine w_rngN (n := (1 + m).toNat) (by omega) (by omega) ?_
    refine drawn (B := 10 ^ 60) hp3 (fun _ => rfl) (by omega) (fun i H4 Q' hi c4 hp4 k' => ?_) (fun l ns H4 hl e1 e2 c4 hp4 e4 => ?_)
    · dsimp only [wipe, List.set_cons_zero, List.set_cons_succ]
      walk_at "rd"
      refine ⟨p, _, rfl, hp4, by decide, by decide, fun b H5 b0 b1 c5 hp5 => ?_⟩
      walk_at "rd"
      refine k' _ _ ?_ c5 hp5
      split <;> omega
    · exact k l ns H4 (free_pen ((c1.trans c2).trans c3) hp3 hl) (by omega) (by omega) e2 (((c1.trans c2).trans c3).trans c4) hp4 e4
  · walk_at "rd"
    refine w_rngN (n := (1 + m).toNat) (by omega) (by omega) ?_
    refine drawn (B := 10 ^ 60) hp2 (fun _ => rfl) (by omega) (fun i H4 Q' hi c4 hp4 k' => ?_) (fun l ns H4 hl e1 e2 c4 hp4 e4 => ?_)
    · dsimp only [wipe, List.set_cons_zero, List.set_cons_succ]
      walk_at "rd"
      exact ⟨p, _, rfl, hp4, fun r H5 r1 c5 hp5 => k' r H5 r1 c5 hp5⟩
    · exact k l ns H4 (free_pen (c1.trans c2) hp2 hl) (by omega) (by omega) e2 ((c1.trans c2).trans c4) hp4 e4

theorem atI_neg1 {α : Type} {xs : List α} {n : Nat} (h : xs.length = n + 1) : atI xs (-1) = xs[n]? := by
  unfold atI ixN
  rw [h, if_neg (by decide), if_pos (by omega)]
  show xs[(-1 + ((n + 1 : Nat) : Int)).toNat]? = xs[n]?
  rw [show (-1 + ((n + 1 : Nat) : Int)).toNat = n by omega]
/-- a row of choices -/
def row (a : Nat) : List Int := (List.range (a + 1)).map fun b => (C a b : Int)
theorem row_step : ∀ i, i < 6 → row (i + 1) = [1] ++ (List.range i).map (fun k => (C i k : Int) + (C i (k + 1) : Int)) ++ [1] := by decide
theorem row_get {a b : Nat} (h : b ≤ a) : (row a).getD b 0 = (C a b : Int) := by
  unfold row
  rw [List.getD_eq_getElem?_getD, List.getElem?_map, List.getElem?_range (by omega)]
  rfl
theorem row_len (a : Nat) : (row a).length = a + 1 := by simp [row]
theorem row_ne {a : Nat} {as : List Addr} (h : as ≠ []) : HO.lst ((row a).map V.int) ≠ HO.lst (as.map V.ref) := by
  intro z
  cases as with
  | nil => exact h rfl
  | cons x r =>
    have z' := HO.lst.inj z
    unfold row at z'
    rw [List.range_succ_eq_map] at z'
    simp at z'
/-- seven rows stand at r -/
def Rows7 (H : Hp) (r : Addr) (n : Nat) : Prop := ∃ as : List Addr, as.length = n ∧ H r = some (.lst (as.map V.ref)) ∧ ∀ (a : Nat) x, as[a]? = some x → H x = some (.lst ((row a).map V.int))
def sp_lchoices (K : PySem.W.Frag) : Sp := fun vs H Q _ => vs = [] ∧ ∀ r H', H r = none → Ch [] H H' → Rows7 H' r 7 → Q (.ref r) H'
def t_lchoices (K : PySem.W.Frag) : TS :=
    (tSeq (tAsg (tLst (tCons (tLst (tCons (tC (.int 1)) tNil)) tNil)) (gName 0))
    (tSeq (tFor (iRng1 (tCons (tC (.int 6)) tNil)) (gName 1)
    (tSeq (tAsg (tOp (rIxL K) (tVar 0) (tUn (rU fun i => .int (-i)) (tC (.int 1)))) (gName 2))
    (tDrop (tBM K "list" rAppend (tVar 0) (tCons (tOp rCat (tOp rCat (tLst (tCons (tC (.int 1)) tNil)) (tLc (iRng1 (tCons (tVar 1) tNil)) (gName 3) tYes (tOp rAdd (tOp (rIxL K) (tVar 2) (tVar 3)) (tOp (rIxL K) (tVar 2) (tOp rAdd (tVar 3) (tC (.int 1))))) [3])) (tLst (tCons (tC (.int 1)) tNil))) tNil)))))
    (tRet (tVar 0))))

theorem len_lchoices (K : PySem.W.Frag) : ∀ vs H Q E, sp_lchoices K vs H Q E → vs.length = 0 := by
  rintro vs H Q E ⟨rfl, _⟩
  rfl
theorem rd_lchoices {K : PySem.W.Frag} {H : Hp} {vs : List V} {Q : VK} {E : XK} {N : List Str} (h : sp_lchoices K vs H Q E) (hN : N.length = 4 := by rfl) : t_lchoices K { nx := fun _ H' => Q .non H', rt := Q } (start N vs) H := by
  obtain ⟨rfl, k⟩ := h
  refine w_start (σ := [none, none, none, none]) (by simp [L2.start, hN]) ?_
  unfold t_lchoices
  walk_at "rd"
  refine w_newA (by show 1 ≤ sizeLine; decide) fun q H1 hq c1 e1 => ?_
  walk_at "rd"
  refine w_newA (by show 1 ≤ sizeLine; decide) fun r H2 hr2 c2 e2 => ?_
  have hr : H r = none := c1.free hr2
  walk_at "rd"
  refine w_rngN (n := 6) rfl (by omega) ?_
  refine w_forR (fun i σ' H' => Ch [] H H' ∧ Rows7 H' r (i + 1) ∧ ∃ o1 o2 o3, σ' = [some (.ref r), o1, o2, o3]) ⟨c1.trans c2, ⟨[q], rfl, e2, ?_⟩, none, none, none, rfl⟩ ?_ ?_
  · intro a x hx
    match a, hx with
    | 0, hx =>
      cases hx
      exact c2.lst e1
    | a + 1, hx => simp at hx
  · rintro i σ' H3 hi ⟨c, ⟨as, la, er, ea⟩, o1, o2, o3, rfl⟩
    dsimp only [List.set_cons_zero, List.set_cons_succ]
    obtain ⟨x, hx⟩ : ∃ x, as[i]? = some x := ⟨as[i], List.getElem?_eq_getElem (by omega)⟩
    have ex := ea i x hx
    walk_at "rd"
    refine w_ixL (SqL.of er) (v := .ref x) ?_ ?_
    · rw [atI_neg1 (n := i) (by rw [List.length_map]; exact la), List.getElem?_map, hx]
      rfl
    walk_at "rd"
    refine w_newA (by show 1 ≤ sizeLine; decide) fun q1 H4 hq1 c4 e4 => ?_
    walk_at "rd"
    refine w_rngN (n := i) rfl (by omega) ?_
    refine w_lcR (fun L j acc H' => Ch [] H4 H' ∧ acc = ((List.range j).map fun k => (C i k : Int) + (C i (k + 1) : Int)).map V.int) (fun L H' hL c e => ⟨c, rfl⟩) (fun _ => rfl) ?_ ?_
    · rintro L j acc H5 hL hj ha e5 ⟨c5, rfl⟩
      dsimp only [wipe, List.set_cons_zero, List.set_cons_succ]
      have ex5 := c5.lst (c4.lst ex)
      walk_at "rd"
      refine w_ixLI (SqL.of ex5) (by omega) (by rw [row_len]; omega) ?_
      walk_at "rd"
      refine w_ixLI (SqL.of ex5) (by omega) (by rw [row_len]; omega) ?_
      walk_at "rd"
      rw [show ((j : Int) + 1).toNat = j + 1 by omega, Int.toNat_natCast, row_get (by omega), row_get (by omega)]
      refine w_lcput e5 ha (by omega) fun H6 c6 e6 => ⟨Ch.old c5 hL c6, ?_⟩
      rw [range_put (α := Int)]
    · rintro L acc H5 hL e5 ⟨c5, rfl⟩
      refine w_cat (c5.lst e4) e5 ?_ fun q2 H6 hq2 c6 e6 => ?_
      · rw [sizeLine_eq, List.length_map, List.length_map, List.length_range]
        show 1 + i ≤ _
        omega
      walk_at "rd"
      refine w_newA (by show 1 ≤ sizeLine; decide) fun q3 H7 hq3 c7 e7 => ?_
      walk_at "rd"
      refine w_cat (c7.lst e6) e7 ?_ fun q4 H8 hq4 c8 e8 => ?_
      · rw [sizeLine_eq, List.length_append, List.length_map, List.length_map, List.length_range]
        show 1 + i + 1 ≤ _
        omega
      have c38 : Ch [] H3 H8 := (((c4.trans c5).trans c6).trans c7).trans c8
      have er8 := c38.lst er
      walk_at "rd"
      refine w_app er8 (by rw [sizeLine_eq, List.length_map]; omega) fun H9 c9 e9 => ?_
      refine ⟨Ch.old (c.trans c38) hr c9, ⟨as ++ [q4], by simp [la], by rw [e9, List.map_append]; rfl, fun a y hy => ?_⟩, _, _, _, rfl⟩
      have er9 : as ≠ [] := fun z => by
        rw [z] at la
        simp at la
      rcases Nat.lt_or_ge a as.length with h | h
      · rw [List.getElem?_append_left h] at hy
        have h8 := c38.lst (ea a y hy)
        exact c9.but h8 (ne_of h8 er8 (row_ne er9))
      · rw [List.getElem?_append_right h] at hy
        have ea' : a = as.length := by
          have := (List.getElem?_eq_some_iff.mp hy).1
          simp at this
          omega
        rw [ea'] at hy
        simp at hy
        subst hy
        rw [ea', la, row_step i hi]
        have e8' : H8 q4 = some (.lst (([1] ++ (List.range i).map (fun k => (C i k : Int) + (C i (k + 1) : Int)) ++ [1]).map V.int)) := by
          rw [e8, List.map_append, List.map_append]
          rfl
        refine c9.but e8' (ne_new (c7.lst (c6.lst (c5.lst (c4.lst er)))) hq4).symm
  · rintro σ' H' ⟨c, h, o1, o2, o3, rfl⟩
    walk_at "rd"
    exact k r H' hr c h

def sp_lsums (K : PySem.W.Frag) : Sp := fun vs H Q _ => ∃ (l : Addr) (ns : List Int) (sg : Int), vs = [.ref l, .int sg] ∧ SqL K H l (ns.map V.int) ∧ 1 ≤ ns.length ∧ ns.length ≤ 7 ∧ (sg = 1 ∨ sg = -1) ∧
  ∀ p H', H p = none → Ch [] H H' → H' p = some (.lst ((bf sg ns).map V.int)) → Q (.ref p) H'
def t_lsums (K : PySem.W.Frag) : TS :=
    (tSeq (tAsg (tCall (sp_lchoices K) [] E0 tNil) (gName 2))
    (tSeq (tAsg (tOp rSub (tCB (rLenL K) (tCons (tVar 0) tNil)) (tC (.int 1))) (gName 3))
    (tSeq (tAsg (tLst tNil) (gName 4))
    (tSeq (tFor (iRng1 (tCons (tOp rAdd (tVar 3) (tC (.int 1))) tNil)) (gName 5)
    (tSeq (tAsg (tC (.int 0)) (gName 6))
    (tSeq (tFor (iRng1 (tCons (tOp rAdd (tVar 5) (tC (.int 1))) tNil)) (gName 7)
    (tAsg (tOp rAdd (tVar 6) (tOp rMul (tOp rMul (tOp (rIxL K) (tVar 0) (tVar 7)) (tOp (rIxL K) (tOp (rIxL K) (tVar 2) (tOp rSub (tVar 3) (tVar 7))) (tOp rSub (tVar 5) (tVar 7)))) (tOp (rIxL K) (tLst (tCons (tC (.int 1)) (tCons (tVar 1) tNil))) (tOp rMod (tOp rSub (tVar 5) (tVar 7)) (tC (.int 2)))))) (gName 6)))
    (tDrop (tBM K "list" rAppend (tVar 4) (tCons (tVar 6) tNil))))))
    (tRet (tVar 4))))))

theorem len_lsums (K : PySem.W.Frag) : ∀ vs H Q E, sp_lsums K vs H Q E → vs.length = 2 := by
  rintro vs H Q E ⟨l, ns, sg, rfl, _⟩
  rfl
theorem rd_lsums {K : PySem.W.Frag} {H : Hp} {vs : List V} {Q : VK} {E : XK} {N : List Str} (h : sp_lsums K vs H Q E) (hN : N.length = 8 := by rfl) : t_lsums K { nx := fun _ H' => Q .non H', rt := Q } (start N vs) H := by
  obtain ⟨l, ns, sg, rfl, hl, h1, h2, hsg, k⟩ := h
  refine w_start (σ := [some (.ref l), some (.int sg), none, none, none, none, none, none]) (by simp [L2.start, hN]) ?_
  unfold t_lsums
  walk_at "rd"
  refine ⟨rfl, fun r H1 hr c1 ⟨as, la, er, ea⟩ => ?_⟩
  have hl1 := c1.sql hl
  walk_at "rd"
  refine w_newA (Nat.zero_le _) fun p H2 hp c2 e2 => ?_
  walk_at "rd"
  refine w_rngN (n := ns.length) (by rw [List.length_map]; omega) (by omega) ?_
  refine w_forR (fun i σ' H' => Ch [] H1 H' ∧ H' p = some (.lst (((bf sg ns).take i).map V.int)) ∧ ∃ o5 o6 o7, σ' = [some (.ref l), some (.int sg), some (.ref r), some (.int ((ns.map V.int).length - 1)), some (.ref p), o5, o6, o7]) ⟨c2, e2, none, none, none, rfl⟩ ?_ ?_
  · rintro i σ' H' hi ⟨c, e, o5, o6, o7, rfl⟩
    dsimp only [List.set_cons_zero, List.set_cons_succ]
    walk_at "rd"
    refine w_rngN (n := i + 1) (by omega) (by omega) ?_
    refine w_forR (fun j σ' H' => Ch [] H1 H' ∧ H' p = some (.lst (((bf sg ns).take i).map V.int)) ∧ ∃ o7, σ' = [some (.ref l), some (.int sg), some (.ref r), some (.int ((ns.map V.int).length - 1)), some (.ref p), some (.int i), some (.int (sm sg ns i j)), o7]) ⟨c, e, o7, rfl⟩ ?_ ?_
    · rintro j σ' H3 hj ⟨c, e, o7, rfl⟩
      dsimp only [List.set_cons_zero, List.set_cons_succ]
      have hc := C_le (ns.length - 1 - j) (by omega) (i - j) (by omega)
      obtain ⟨x, hx⟩ : ∃ x, as[ns.length - 1 - j]? = some x := ⟨as[ns.length - 1 - j], List.getElem?_eq_getElem (by omega)⟩
      walk_at "rd"
      refine w_ixLI (c.sql hl1) (by omega) (by omega) ?_
      walk_at "rd"
      refine w_ixL (SqL.of (c.lst er)) (v := .ref x) ?_ ?_
      · rw [show (((ns.map V.int).length : Int) - 1 - (j : Int)) = ((ns.length - 1 - j : Nat) : Int) by rw [List.length_map]; omega, atI_natI, List.getElem?_map, hx]
        rfl
      walk_at "rd"
      refine w_ixLI (SqL.of (c.lst (ea _ x hx))) (by omega) (by rw [row_len]; omega) ?_
      rw [show ((i : Int) - (j : Int)).toNat = i - j by omega, row_get (by omega)]
      walk_at "rd"
      refine w_newA (by show 2 ≤ sizeLine; decide) fun q H4 hq c4 e4 => ?_
      walk_at "rd"
      refine w_ixL (SqL.of e4) (v := .int (if (i - j) % 2 = 0 then 1 else sg)) ?_ ?_
      · rw [show ((i : Int) - (j : Int)) % 2 = (((i - j) % 2 : Nat) : Int) by omega, atI_natI]
        rcases Nat.mod_two_eq_zero_or_one (i - j) with e5 | e5
        · rw [e5, if_pos rfl]
          rfl
        · rw [e5, if_neg (by decide)]
          rfl
      refine w_mul (.inr ?_) ?_
      · rcases hsg with rfl | rfl <;> split <;> decide
      walk_at "rd"
      exact ⟨c.trans c4, c4.lst e, _, rfl⟩
    · rintro σ' H3 ⟨c, e, o7, rfl⟩
      walk_at "rd"
      refine w_app e (by rw [sizeLine_eq, List.length_map, List.length_take, bf_length]; omega) fun H4 c4 e4 => ?_
      rw [← bf_take sg ns i hi] at e4
      exact ⟨Ch.old c hp c4, e4, _, _, _, rfl⟩
  · rintro σ' H' ⟨c, e, o5, o6, o7, rfl⟩
    walk_at "rd"
    rw [bf_all] at e
    exact k p H' (c1.free hp) (c1.trans c) e
/-! ### whether a list is led to what is due, and back -/
theorem dp_ints (K : PySem.W.Frag) (H : Hp) : ∀ ns : List Int, DpAll K H (ns.map V.int) (ns.map PyData.int)
  | [] => .nil
  | n :: ns => .cons (.int n) (dp_ints K H ns)
theorem dp_list {K : PySem.W.Frag} {H : Hp} {l : Addr} {ns : List Int} (h : SqL K H l (ns.map V.int)) : Dp K H (.ref l) (.list (ns.map PyData.int)) := .lst h (dp_ints K H ns)
theorem depth_ints : ∀ ns : List Int, PyData.depthAll (ns.map PyData.int) ≤ 1
  | [] => by simp [PyData.depthAll]
  | n :: ns => by
    have := depth_ints ns
    simp only [List.map_cons, PyData.depthAll, PyData.depth]
    omega
theorem small_ints {k : Nat} {ns : List Int} (h : ∀ x ∈ ns, x.natAbs < 10 ^ k) : smallAll k (ns.map PyData.int) = true := by
  rw [smallAll_iff]
  intro x hx
  obtain ⟨n, hn, rfl⟩ := List.mem_map.mp hx
  simpa [small] using h n hn
theorem cost_ints (k : Nat) (ns : List Int) : costAll k (ns.map PyData.int) ≤ (k + 3) * ns.length := by
  have h := costAll_le (k := k) (m := k + 1) (xs := ns.map PyData.int) fun x hx => by
    obtain ⟨n, hn, rfl⟩ := List.mem_map.mp hx
    exact Nat.le_refl _
  rw [List.length_map] at h
  exact h
/-- the text of a list of ints -/
def txt (ns : List Int) : Str := (PyData.list (ns.map PyData.int)).shown
theorem w_repr {K : PySem.W.Frag} {H : Hp} {Q : VK} {l : Addr} {ns : List Int} (h : SqL K H l (ns.map V.int)) (hl : ns.length ≤ 1000) (hb : ∀ x ∈ ns, x.natAbs < 10 ^ 100) (q : Q (.str (txt ns)) H) : rReprD K [.ref l] H Q := by
  refine ⟨l, _, 100, rfl, dp_list h, ?_, by decide, ?_, ?_, q⟩
  · have := depth_ints ns
    simp only [PyData.depth]
    omega
  · simpa [small] using small_ints hb
  · have := cost_ints 100 ns
    show costAll 100 _ + 4 ≤ sizeLine
    rw [sizeLine_eq]
    omega
def sp_lright (K : PySem.W.Frag) (P : Program) (w : World) (mg : Str → Option Value) (base : Heap) : Sp := fun vs H Q _ => ∃ (fa fb l : Addr) (ns : List Int) (sg : Int), vs = [.ref fa, .ref fb, .ref l, .int sg] ∧ Held P w K mg base 2 fa (sp_bf K sg) ∧ Held P w K mg base 2 fb (sp_bf K (-sg)) ∧
  H l = some (.lst (ns.map V.int)) ∧ 1 ≤ ns.length ∧ ns.length ≤ 7 ∧ (∀ x ∈ ns, x.natAbs ≤ 10 ^ 60) ∧ (sg = 1 ∨ sg = -1) ∧ ∀ H', Ch [] H H' → Q (.bl true) H'
def t_lright (K : PySem.W.Frag) (P : Program) (w : World) (mg : Str → Option Value) (base : Heap) : TS :=
    (tSeq (tAsg (tCall (sp_lsums K) [] E0 (tCons (tVar 2) (tCons (tVar 3) tNil))) (gName 4))
    (tSeq (tAsg (tCB (rListOf K) (tCons (tVar 2) tNil)) (gName 5))
    (tSeq (tFor (iRng1 (tCons (tC (.int 2)) tNil)) (gName 6)
    (tSeq (tAsg (tCallF P w K mg base 2 0 (tCons (tVar 5) tNil)) (gName 7))
    (tSeq (tIfS (tOr (tTest (tOp rNe (tCB (rReprD K) (tCons (tVar 7) tNil)) (tCB (rReprD K) (tCons (tVar 4) tNil)))) (tTest (tOp rNe (tCB (rReprD K) (tCons (tVar 5) tNil)) (tCB (rReprD K) (tCons (tVar 2) tNil))))) (tRet (tC (.bl false))) tNext)
    (tSeq (tIfS (tOr (tTest (tOp rNe (tCB (rReprD K) (tCons (tCallF P w K mg base 2 1 (tCons (tVar 7) tNil)) tNil)) (tCB (rReprD K) (tCons (tVar 2) tNil)))) (tTest (tOp rNe (tCB (rReprD K) (tCons (tVar 7) tNil)) (tCB (rReprD K) (tCons (tVar 4) tNil))))) (tRet (tC (.bl false))) tNext)
    (tSeq (tDrop (tBM K "list" rAppend (tVar 7) (tCons (tC (.int 0)) tNil)))
    (tAsg (tC (.int 7)) (gSub (tVar 7) (tC (.int 0)) rSetL)))))))
    (tSeq (tDrop (tBM K "list" rAppend (tVar 5) (tCons (tC (.int 3)) tNil)))
    (tRet (tOp rEq (tCB (rReprD K) (tCons (tCallF P w K mg base 2 0 (tCons (tCB (rListOf K) (tCons (tVar 2) tNil)) tNil)) tNil)) (tCB (rReprD K) (tCons (tVar 4) tNil))))))))

theorem len_lright (K : PySem.W.Frag) (P : Program) (w : World) (mg : Str → Option Value) (base : Heap) : ∀ vs H Q E, sp_lright K P w mg base vs H Q E → vs.length = 4 := by
  rintro vs H Q E ⟨fa, fb, l, ns, sg, rfl, _⟩
  rfl
theorem rd_lright {K : PySem.W.Frag} {P : Program} {w : World} {mg : Str → Option Value} {base : Heap} {H : Hp} {vs : List V} {Q : VK} {E : XK} {N : List Str} (h : sp_lright K P w mg base vs H Q E) (hN : N.length = 8 := by rfl) :
    t_lright K P w mg base { nx := fun _ H' => Q .non H', rt := Q } (start N vs) H := by
  obtain ⟨fa, fb, l, ns, sg, rfl, Aa, Ab, hl, h1, h2, hb, hsg, k⟩ := h
  refine w_start (σ := [some (.ref fa), some (.ref fb), some (.ref l), some (.int sg), none, none, none, none]) (by simp [L2.start, hN]) ?_
  unfold t_lright
  have b1 : ∀ x ∈ ns, x.natAbs < 10 ^ 100 := fun x hx => Nat.lt_of_le_of_lt (hb x hx) (by decide +kernel)
  have b2 : ∀ x ∈ bf sg ns, x.natAbs < 10 ^ 100 := fun x hx => Nat.lt_of_le_of_lt (bf_le hsg h2 hb x hx) (by decide +kernel)
  have l2 : (bf sg ns).length = ns.length := bf_length sg ns
  walk_at "rd"
  refine ⟨l, ns, sg, rfl, SqL.of hl, h1, h2, hsg, fun d H1 hd c1 ed => ?_⟩
  have hl1 := c1.lst hl
  walk_at "rd"
  refine w_listL (SqL.of hl1) fun n H2 hn c2 en => ?_
  walk_at "rd"
  have hd2 := c2.lst ed
  refine w_rngN (n := 2) rfl (by omega) ?_
  refine w_forR (fun i σ' H' => Ch [] H2 H' ∧ ∃ o6 o7, σ' = [some (.ref fa), some (.ref fb), some (.ref l), some (.int sg), some (.ref d), some (.ref n), o6, o7]) ⟨.refl, none, none, rfl⟩ ?_ ?_
  · rintro i σ' H3 hi ⟨c, o6, o7, rfl⟩
    dsimp only [List.set_cons_zero, List.set_cons_succ]
    have en3 := c.lst en
    walk_at "rd"
    refine w_callF rfl Aa ?_
    walk_at "rd"
    refine ⟨n, ns, rfl, SqL.of en3, h1, h2, fun f H4 hf c4 ef => ?_⟩
    have hd4 := c4.lst (c.lst hd2)
    have en4 := c4.lst en3
    have hl4 := c4.lst (c.lst (c2.lst hl1))
    walk_at "rd"
    refine w_repr (SqL.of ef) (by omega) b2 ?_
    walk_at "rd"
    refine w_repr (SqL.of hd4) (by omega) b2 ?_
    refine w_neS ?_
    walk_at "rd"
    refine w_itn (fun hz => absurd rfl hz) (fun _ => ?_)
    walk_at "rd"
    refine w_repr (SqL.of en4) (by omega) b1 ?_
    walk_at "rd"
    refine w_repr (SqL.of hl4) (by omega) b1 ?_
    refine w_neS ?_
    walk_at "rd"
    refine w_itn (fun hz => absurd rfl hz) (fun _ => ?_)
    walk_at "rd"
    refine w_callF rfl Ab ?_
    walk_at "rd"
    refine ⟨f, bf sg ns, rfl, SqL.of ef, by omega, by omega, fun g H5 hg c5 eg => ?_⟩
    rw [bf_back sg hsg ns h1 h2] at eg
    walk_at "rd"
    refine w_repr (SqL.of eg) (by omega) b1 ?_
    walk_at "rd"
    refine w_repr (SqL.of (c5.lst hl4)) (by omega) b1 ?_
    refine w_neS ?_
    walk_at "rd"
    refine w_itn (fun hz => absurd rfl hz) (fun _ => ?_)
    have ef5 := c5.lst ef
    walk_at "rd"
    refine w_repr (SqL.of ef5) (by omega) b2 ?_
    walk_at "rd"
    refine w_repr (SqL.of (c5.lst hd4)) (by omega) b2 ?_
    refine w_neS ?_
    walk_at "rd"
    refine w_itn (fun hz => absurd rfl hz) (fun _ => ?_)
    walk_at "rd"
    refine w_app ef5 (by rw [sizeLine_eq, List.length_map]; omega) fun H6 c6 e6 => ?_
    walk_at "rd"
    refine w_setL e6 (k := 0) ?_ fun H7 c7 e7 => ?_
    · rw [List.length_append, List.length_map, l2]
      unfold ixN
      rw [if_pos (by decide), if_pos (by simp)]
      rfl
    exact ⟨Ch.old (Ch.old (c.trans (c4.trans c5)) (c.free hf) c6) (c.free hf) c7, _, _, rfl⟩
  · rintro σ' H3 ⟨c, o6, o7, rfl⟩
    have en3 := c.lst en
    walk_at "rd"
    refine w_app en3 (by rw [sizeLine_eq, List.length_map]; omega) fun H4 c4 e4 => ?_
    have nln : l ≠ n := ne_new hl1 hn
    have hl4 := c4.but (c.lst (c2.lst hl1)) nln
    have hd4 := c4.but (c.lst hd2) (ne_new ed hn)
    walk_at "rd"
    refine w_callF rfl Aa ?_
    walk_at "rd"
    refine w_listL (SqL.of hl4) fun n2 H5 hn2 c5 en2 => ?_
    walk_at "rd"
    refine ⟨n2, ns, rfl, SqL.of en2, h1, h2, fun f H6 hf c6 ef => ?_⟩
    walk_at "rd"
    refine w_repr (SqL.of ef) (by omega) b2 ?_
    walk_at "rd"
    refine w_repr (SqL.of (c6.lst (c5.lst hd4))) (by omega) b2 ?_
    refine w_eqS ?_
    rw [decide_eq_true rfl]
    refine k _ (Ch.trans (Ch.old (c1.trans (c2.trans c)) (c1.free hn) c4) (c5.trans c6))

def sp_law (K : PySem.W.Frag) : Sp := fun vs H Q _ => ∃ (a : Addr) (ns : List Int), vs = [.ref a] ∧ Fz K H a (ns.map V.int) ∧ ∀ H', Q (.bl true) H'
def t_law (K : PySem.W.Frag) (P : Program) (w : World) (mg : Str → Option Value) (base : Heap) (f_counts_from : Addr) (f_brought_from : Addr) : TS :=
    (tSeq (tAsg (tLst (tCons (tVar 0) (tCons (tC (.int 0)) (tCons (tC (.int 0)) tNil)))) (gName 1))
    (tSeq (tFor (iRng1 (tCons (tC (.int 8)) tNil)) (gName 2)
    (tSeq (tAsg (tCall (sp_llist K) [] E0 (tCons (tVar 1) tNil)) (gName 3))
    (tIfS (tOr (tNot (tB (tCall (sp_lright K P w mg base) [] E0 (tCons (tC (.ref f_brought_from)) (tCons (tC (.ref f_counts_from)) (tCons (tVar 3) (tCons (tUn (rU fun i => .int (-i)) (tC (.int 1))) tNil))))))) (tNot (tB (tCall (sp_lright K P w mg base) [] E0 (tCons (tC (.ref f_counts_from)) (tCons (tC (.ref f_brought_from)) (tCons (tVar 3) (tCons (tC (.int 1)) tNil)))))))) (tRet (tC (.bl false))) tNext)))
    (tRet (tC (.bl true)))))

theorem len_law (K : PySem.W.Frag) : ∀ vs H Q E, sp_law K vs H Q E → vs.length = 1 := by
  rintro vs H Q E ⟨a, ns, rfl, _⟩
  rfl
theorem rd_law {K : PySem.W.Frag} {P : Program} {w : World} {mg : Str → Option Value} {base : Heap} {fc fb : Addr} {H : Hp} {vs : List V} {Q : VK} {E : XK} {N : List Str} (Ac : Held P w K mg base 2 fc (sp_bf K 1)) (Ab : Held P w K mg base 2 fb (sp_bf K (-1)))
    (h : sp_law K vs H Q E) (hN : N.length = 4 := by rfl) : t_law K P w mg base fc fb { nx := fun _ H' => Q .non H', rt := Q } (start N vs) H := by
  obtain ⟨a, ns, rfl, hs, k⟩ := h
  refine w_start (σ := [some (.ref a), none, none, none]) (by simp [L2.start, hN]) ?_
  unfold t_law
  walk_at "rd"
  refine w_newA (by show 3 ≤ sizeLine; decide) fun p H1 hp c1 e1 => ?_
  have pen : Pen K H1 p := ⟨a, ns, 0, 0, e1, c1.fz hs, by decide, by decide⟩
  walk_at "rd"
  refine w_rngN (n := 8) rfl (by omega) ?_
  refine w_forR (fun i σ' H' => Pen K H' p ∧ ∃ o2 o3, σ' = [some (.ref a), some (.ref p), o2, o3]) ⟨pen, none, none, rfl⟩ ?_ ?_
  · rintro i σ' H2 hi ⟨pen, o2, o3, rfl⟩
    dsimp only [List.set_cons_zero, List.set_cons_succ]
    walk_at "rd"
    refine ⟨p, rfl, pen, fun l ms H3 hl l1 l2 hb c3 pen3 e3 => ?_⟩
    walk_at "rd"
    refine ⟨fb, fc, l, ms, -1, rfl, Ab, Ac, e3, l1, l2, hb, .inr rfl, fun H4 c4 => ?_⟩
    walk_at "rd"
    refine ⟨fc, fb, l, ms, 1, rfl, Ac, Ab, c4.lst e3, l1, l2, hb, .inl rfl, fun H5 c5 => ?_⟩
    walk_at "rd"
    exact ⟨(pen3.keep c4).keep c5, _, _, rfl⟩
  · rintro σ' H2 ⟨pen, o2, o3, rfl⟩
    walk_at "rd"
    exact k H2
theorem fz_of {K : PySem.W.Frag} {H : Hp} {a : Addr} {ns : List Int} (h : SqL K H a (ns.map V.int)) (hH : ∀ b u, H b = some u → b = a ∧ ∃ o v, u = .frz o v) : Fz K H a (ns.map V.int) := by
  rcases h with (h | ⟨o, h⟩) | h
  · obtain ⟨_, o, v, z⟩ := hH a _ h
    cases z
  · exact .inl ⟨o, h⟩
  · exact .inr fun _ => .inr h
/-! ## the text by places -/
def topS (i : Nat) : Stmt := PySem.Challenge.pw_wholesides_k07_counts_both_ways.main.body.getD i (.Pass ⟨0, 0, 0, 0⟩)
structure Tx (mg : Str → Option Value) : Prop where
  b_range : mg "range" = none
  b_len : mg "len" = none
  b_sum : mg "sum" = none
  b_abs : mg "abs" = none
  b_str : mg "str" = none
  b_int : mg "int" = none
  b_list : mg "list" = none
  b_repr : mg "repr" = none
section
variable {P : Program} {w : World} {K : PySem.W.Frag} {mg : Str → Option Value} {base : Heap}
abbrev s_choices : Stmt := topS 1
abbrev N_choices : List Str := ["many", "some", "found", "k"]
theorem sc_choices : FnScope N_choices ["many", "some"] (defScope s_choices) := ⟨rfl, rfl, rfl, by decide +kernel, rfl, by decide +kernel, by decide +kernel⟩
theorem ok_choices {f : Addr} {fd : FuncData} (F : Fun K "choices" "choices" s_choices f fd) (T : Tx mg) : FnOk P w K mg base CX0 1 f fd ["many", "some"] (sp_choices K) := by
  have sc := sc_choices
  refine F.ok sc (len_choices K) (fun cdv A outer s H vs Q E hr h => ⟨t_choices K, ?_, rd_choices h⟩)
  exact (pss_cons (ps_set (i := 2) sc.nd rfl (.inl rfl) pe_int)
      (pss_cons (ps_for PassesOwn.never rfl (pi_range1 (by rfl) T.b_range (pa_cons (pv 1) pa_nil)) (pg_name (i := 3) sc.nd rfl (.inl rfl))
      (pss_one (ps_set (i := 2) sc.nd rfl (.inl rfl) (pe_op o_div (pe_op o_mul (pv 2) (pe_op o_sub (pv 0) (pv 3))) (pe_op o_add (pv 3) pe_int)))))
      (pss_one (ps_ret (pv 2)))))

abbrev s_brought_from : Stmt := topS 2
abbrev N_brought_from : List Str := ["counts", "last", "found", "k", "total", "i", "part"]
theorem sc_brought_from : FnScope N_brought_from ["counts"] (defScope s_brought_from) := ⟨rfl, rfl, rfl, by decide +kernel, rfl, by decide +kernel, by decide +kernel⟩
theorem ok_brought_from {f : Addr} {fd : FuncData} (F : Fun K "brought_from" "brought_from" s_brought_from f fd) (T : Tx mg) (h_choices : Has P w K mg base "choices" ["many", "some"] 1 (sp_choices K)) : FnOk P w K mg base CX0 2 f fd ["counts"] (sp_brought_from K) := by
  have sc := sc_brought_from
  refine F.ok sc (len_brought_from K) (fun cdv A outer s H vs Q E hr h => ⟨t_brought_from K, ?_, rd_brought_from h⟩)
  exact (pss_cons (ps_set (i := 1) sc.nd rfl (.inl rfl) (pe_op o_sub (pe_callB cr_len (by rfl) T.b_len (by decide +kernel) (pa_cons (pv 0) pa_nil)) pe_int))
      (pss_cons (ps_set (i := 2) sc.nd rfl (.inl rfl) (pe_lst pa_nil))
      (pss_cons (ps_for PassesOwn.never rfl (pi_range1 (by rfl) T.b_range (pa_cons (pe_op o_add (pv 1) pe_int) pa_nil)) (pg_name (i := 3) sc.nd rfl (.inl rfl))
      (pss_cons (ps_set (i := 4) sc.nd rfl (.inl rfl) pe_int)
      (pss_cons (ps_for PassesOwn.never rfl (pi_range1 (by rfl) T.b_range (pa_cons (pe_op o_add (pv 3) pe_int) pa_nil)) (pg_name (i := 5) sc.nd rfl (.inl rfl))
      (pss_cons (ps_set (i := 6) sc.nd rfl (.inl rfl) (pe_op o_mul (pe_ix ix_list (pv 0) (pv 5) (fun _ _ => rfl)) (pe_h h_choices (hr.mono (by decide)) (by rfl) (pa_cons (pe_op o_sub (pv 1) (pv 5)) (pa_cons (pe_op o_sub (pv 3) (pv 5)) pa_nil)))))
      (pss_one (ps_set (i := 4) sc.nd rfl (.inl rfl) (pe_op o_add (pv 4) (pe_ix ix_list (pe_lst (pa_cons (pv 6) (pa_cons (pe_op o_sub pe_int (pv 6)) pa_nil))) (pe_op o_mod (pe_op o_sub (pv 3) (pv 5)) pe_int) (fun _ _ => rfl)))))))
      (pss_one (ps_expr (pe_bm PySem.F.plainAttrs_list PySem.F.slot_list_append PySem.F.type_list_append mt_append (pv 2) (pa_cons (pv 4) pa_nil)))))))
      (pss_one (ps_ret (pv 2))))))

abbrev s_counts_from : Stmt := topS 3
abbrev N_counts_from : List Str := ["brought", "last", "found", "k", "i"]
theorem sc_counts_from : FnScope N_counts_from ["brought"] (defScope s_counts_from) := ⟨rfl, rfl, rfl, by decide +kernel, rfl, by decide +kernel, by decide +kernel⟩
theorem ok_counts_from {f : Addr} {fd : FuncData} (F : Fun K "counts_from" "counts_from" s_counts_from f fd) (T : Tx mg) (h_choices : Has P w K mg base "choices" ["many", "some"] 1 (sp_choices K)) : FnOk P w K mg base CX0 2 f fd ["brought"] (sp_counts_from K) := by
  have sc := sc_counts_from
  refine F.ok sc (len_counts_from K) (fun cdv A outer s H vs Q E hr h => ⟨t_counts_from K, ?_, rd_counts_from h⟩)
  exact (pss_cons (ps_set (i := 1) sc.nd rfl (.inr rfl) (pe_op o_sub (pe_callB cr_len (by rfl) T.b_len (by decide +kernel) (pa_cons (pv 0) pa_nil)) pe_int))
      (pss_cons (ps_set (i := 2) sc.nd rfl (.inl rfl) (pe_lst pa_nil))
      (pss_cons (ps_for PassesOwn.never rfl (pi_range1 (by rfl) T.b_range (pa_cons (pe_op o_add (pv 1) pe_int) pa_nil)) (pg_name (i := 3) sc.nd rfl (.inr rfl))
      (pss_one (ps_expr (pe_bm PySem.F.plainAttrs_list PySem.F.slot_list_append PySem.F.type_list_append mt_append (pv 2) (pa_cons (pe_callB (cr_sum rfl) (by rfl) T.b_sum (by decide +kernel) (pa_cons (pe_lc (own := [("i", 4)]) (by rfl) sc.nd (pi_range1 (by rfl) T.b_range (pa_cons (pe_op o_add (pv 3) pe_int) pa_nil)) (blkOk_by (own := [("i", 4)]) (N := N_counts_from) (sc := defScope s_counts_from) (by decide +kernel)) (fun _ _ _ _ _ => (pg_name (i := 4) sc.nd rfl (.inl rfl))) (fun _ _ _ _ _ => pts_nil) (fun _ _ _ _ _ => (pe_op o_mul (pe_ix ix_list (pv 0) (pv 4) (fun _ _ => rfl)) (pe_h h_choices (hr.mono (by decide)) (by rfl) (pa_cons (pe_op o_sub (pv 1) (pv 4)) (pa_cons (pe_op o_sub (pv 3) (pv 4)) pa_nil)))))) pa_nil)) pa_nil)))))
      (pss_one (ps_ret (pv 2))))))

abbrev s_ldraw : Stmt := topS 5
abbrev N_ldraw : List Str := ["_law_pen", "_law_many", "_law_digit", "_law_script", "_law_at", "_law_cell", "_law_one", "_law_two"]
theorem sc_ldraw : FnScope N_ldraw ["_law_pen", "_law_many"] (defScope s_ldraw) := ⟨rfl, rfl, rfl, by decide +kernel, rfl, by decide +kernel, by decide +kernel⟩
theorem ok_ldraw {f : Addr} {fd : FuncData} (F : Fun K "_law_draw" "_law_draw" s_ldraw f fd) (T : Tx mg) : FnOk P w K mg base CX0 1 f fd ["_law_pen", "_law_many"] (sp_ldraw K) := by
  have sc := sc_ldraw
  refine F.ok sc (len_ldraw K) (fun cdv A outer s H vs Q E hr h => ⟨t_ldraw K, ?_, rd_ldraw h⟩)
  exact (pss_cons (ps_if (pt_cmpR o_gt (pe_ix ix_list (pv 0) pe_int (fun _ _ => rfl)) pe_int (nomark _)) (pss_cons (ps_set (i := 2) sc.nd rfl (.inl rfl) (pe_op o_mod (pe_ix ix_list (pv 0) pe_int (fun _ _ => rfl)) (pv 1)))
      (pss_cons (ps_asg (pe_op o_div (pe_ix ix_list (pv 0) pe_int (fun _ _ => rfl)) (pv 1)) (pg_sub (pv 0) pe_int set_list))
      (pss_one (ps_ret (pv 2))))) pss_nil)
      (pss_cons (ps_asg (pe_slice sl_list (pv 0) po_none (po_some pe_int)) (pg_unl rfl (pgs_cons (pg_name (i := 3) sc.nd rfl (.inl rfl)) (pgs_cons (pg_name (i := 4) sc.nd rfl (.inl rfl)) pgs_nil))))
      (pss_cons (ps_asg (pe_op o_add (pv 4) pe_int) (pg_sub (pv 0) pe_int set_list))
      (pss_cons (ps_set (i := 5) sc.nd rfl (.inl rfl) pe_int)
      (pss_cut (ps_if (pt_cmpR o_gt (pe_callB cr_len (by rfl) T.b_len (by decide +kernel) (pa_cons (pv 3) pa_nil)) pe_int (nomark _)) (pss_one (ps_set (i := 5) sc.nd rfl (.inl rfl) (pe_ix ix_list (pv 3) (pe_op o_mod (pv 4) (pe_callB cr_len (by rfl) T.b_len (by decide +kernel) (pa_cons (pv 3) pa_nil))) (fun _ _ => rfl)))) pss_nil)
      (pss_cons (ps_if (PW.pt (pw_and (pt_cmpR o_lt (pv 4) (pe_callB cr_len (by rfl) T.b_len (by decide +kernel) (pa_cons (pv 3) pa_nil)) (nomark _)) (pw_and1 (pt_cmpR o_ge (pe_callB cr_abs (by rfl) T.b_abs (by decide +kernel) (pa_cons (pv 5) pa_nil)) (pe_op o_pow pe_int pe_int) (nomark _))))) (pss_cons (ps_asg (pe_op o_div (pe_callB cr_abs (by rfl) T.b_abs (by decide +kernel) (pa_cons (pv 5) pa_nil)) (pv 1)) (pg_sub (pv 0) pe_int set_list))
      (pss_one (ps_ret (pe_op o_mod (pe_callB cr_abs (by rfl) T.b_abs (by decide +kernel) (pa_cons (pv 5) pa_nil)) (pv 1))))) pss_nil)
      (pss_cons (ps_set (i := 6) sc.nd rfl (.inl rfl) (pe_op o_mod (pe_op o_mul (pe_op o_add (pe_op o_add (pe_op o_mod (pv 5) pe_int) (pe_op o_mul pe_int (pv 4))) pe_int) pe_int) pe_int))
      (pss_cons (ps_set (i := 7) sc.nd rfl (.inl rfl) (pe_op o_mod (pe_op o_add (pe_op o_add (pe_op o_mul (pv 6) (pv 6)) (pe_op o_mul pe_int (pv 6))) (pe_op o_mul pe_int (pv 4))) pe_int))
      (pss_one (ps_ret (pe_op o_mod (pe_op o_div (pe_op o_mod (pe_op o_mul (pv 7) (pe_op o_add (pe_op o_mod (pv 7) pe_int) pe_int)) pe_int) pe_int) (pv 1))))))))))))

abbrev s_lwide : Stmt := topS 6
abbrev N_lwide : List Str := ["_law_pen", "_law_many", "_law_found", "_law_k"]
theorem sc_lwide : FnScope N_lwide ["_law_pen", "_law_many"] (defScope s_lwide) := ⟨rfl, rfl, rfl, by decide +kernel, rfl, by decide +kernel, by decide +kernel⟩
theorem ok_lwide {f : Addr} {fd : FuncData} (F : Fun K "_law_wide" "_law_wide" s_lwide f fd) (T : Tx mg) (h_ldraw : Has P w K mg base "_law_draw" ["_law_pen", "_law_many"] 1 (sp_ldraw K)) : FnOk P w K mg base CX0 2 f fd ["_law_pen", "_law_many"] (sp_lwide K) := by
  have sc := sc_lwide
  refine F.ok sc (len_lwide K) (fun cdv A outer s H vs Q E hr h => ⟨t_lwide K, ?_, rd_lwide h⟩)
  exact (pss_cons (ps_set (i := 2) sc.nd rfl (.inl rfl) pe_int)
      (pss_cons (ps_for PassesOwn.never rfl (pi_range1 (by rfl) T.b_range (pa_cons (pe_op o_add (pe_op o_div (pe_callB cr_lenS (by rfl) T.b_len (by decide +kernel) (pa_cons (pe_callTy cr_str (by rfl) T.b_str (by decide +kernel) (pa_cons (pv 1) pa_nil)) pa_nil)) pe_int) pe_int) pa_nil)) (pg_name (i := 3) sc.nd rfl (.inl rfl))
      (pss_one (ps_set (i := 2) sc.nd rfl (.inl rfl) (pe_op o_add (pe_op o_mul (pv 2) (pe_op o_pow pe_int pe_int)) (pe_h h_ldraw (hr.mono (by decide)) (by rfl) (pa_cons (pv 0) (pa_cons (pe_op o_pow pe_int pe_int) pa_nil)))))))
      (pss_one (ps_ret (pe_op o_mod (pv 2) (pv 1))))))

abbrev s_lnumber : Stmt := topS 7
abbrev N_lnumber : List Str := ["_law_pen", "_law_way", "_law_sign"]
theorem sc_lnumber : FnScope N_lnumber ["_law_pen", "_law_way"] (defScope s_lnumber) := ⟨rfl, rfl, rfl, by decide +kernel, rfl, by decide +kernel, by decide +kernel⟩
theorem ok_lnumber {f : Addr} {fd : FuncData} (F : Fun K "_law_number" "_law_number" s_lnumber f fd) (T : Tx mg) (h_ldraw : Has P w K mg base "_law_draw" ["_law_pen", "_law_many"] 1 (sp_ldraw K)) (h_lwide : Has P w K mg base "_law_wide" ["_law_pen", "_law_many"] 2 (sp_lwide K)) : FnOk P w K mg base CX0 3 f fd ["_law_pen", "_law_way"] (sp_lnumber K) := by
  have sc := sc_lnumber
  refine F.ok sc (len_lnumber K) (fun cdv A outer s H vs Q E hr h => ⟨t_lnumber K, ?_, rd_lnumber h⟩)
  exact (pss_cons (ps_set (i := 2) sc.nd rfl (.inl rfl) (pe_op o_sub pe_int (pe_op o_mul pe_int (pe_h h_ldraw (hr.mono (by decide)) (by rfl) (pa_cons (pv 0) (pa_cons pe_int pa_nil))))))
      (pss_cons (ps_if (pt_cmpR op_eq (pv 1) pe_int (nomark _)) (pss_one (ps_ret (pe_op o_sub (pe_h h_ldraw (hr.mono (by decide)) (by rfl) (pa_cons (pv 0) (pa_cons pe_int pa_nil))) pe_int))) pss_nil)
      (pss_cons (ps_if (pt_cmpR op_eq (pv 1) pe_int (nomark _)) (pss_one (ps_ret (pe_op o_mul (pe_h h_ldraw (hr.mono (by decide)) (by rfl) (pa_cons (pv 0) (pa_cons pe_int pa_nil))) (pe_callTy cr_intB (by rfl) T.b_int (by decide +kernel) (pa_cons (pe_cmpR op_eq (pe_h h_ldraw (hr.mono (by decide)) (by rfl) (pa_cons (pv 0) (pa_cons pe_int pa_nil))) pe_int (nomark _)) pa_nil))))) pss_nil)
      (pss_cons (ps_if (pt_cmpR op_eq (pv 1) pe_int (nomark _)) (pss_one (ps_ret (pe_op o_mul (pv 2) (pe_h h_lwide (hr.mono (by decide)) (by rfl) (pa_cons (pv 0) (pa_cons (pe_op o_pow pe_int pe_int) pa_nil)))))) pss_nil)
      (pss_one (ps_ret (pe_op o_mul (pv 2) (pe_ix ix_list (pe_lst (pa_cons (pe_op o_sub (pe_op o_pow pe_int pe_int) pe_int) (pa_cons (pe_op o_pow pe_int pe_int) (pa_cons pe_int (pa_cons pe_int pa_nil))))) (pe_h h_ldraw (hr.mono (by decide)) (by rfl) (pa_cons (pv 0) (pa_cons pe_int pa_nil))) (fun _ _ => rfl)))))))))

abbrev s_llist : Stmt := topS 8
abbrev N_llist : List Str := ["_law_pen", "_law_way", "_law_many", "_law_at", "_law_k"]
theorem sc_llist : FnScope N_llist ["_law_pen"] (defScope s_llist) := ⟨rfl, rfl, rfl, by decide +kernel, rfl, by decide +kernel, by decide +kernel⟩
theorem ok_llist {f : Addr} {fd : FuncData} (F : Fun K "_law_list" "_law_list" s_llist f fd) (T : Tx mg) (h_ldraw : Has P w K mg base "_law_draw" ["_law_pen", "_law_many"] 1 (sp_ldraw K)) (h_lnumber : Has P w K mg base "_law_number" ["_law_pen", "_law_way"] 3 (sp_lnumber K)) : FnOk P w K mg base CX0 4 f fd ["_law_pen"] (sp_llist K) := by
  have sc := sc_llist
  refine F.ok sc (len_llist K) (fun cdv A outer s H vs Q E hr h => ⟨t_llist K, ?_, rd_llist h⟩)
  exact (pss_cons (ps_set (i := 1) sc.nd rfl (.inr rfl) (pe_h h_ldraw (hr.mono (by decide)) (by rfl) (pa_cons (pv 0) (pa_cons pe_int pa_nil))))
      (pss_cons (ps_set (i := 2) sc.nd rfl (.inl rfl) (pe_op o_add pe_int (pe_h h_ldraw (hr.mono (by decide)) (by rfl) (pa_cons (pv 0) (pa_cons pe_int pa_nil)))))
      (pss_cons (ps_if (pt_cmpR op_eq (pv 1) pe_int (nomark _)) (pss_cons (ps_set (i := 3) sc.nd rfl (.inr rfl) (pe_h h_ldraw (hr.mono (by decide)) (by rfl) (pa_cons (pv 0) (pa_cons (pv 2) pa_nil))))
      (pss_one (ps_ret (pe_lc (own := [("_law_k", 4)]) (by rfl) sc.nd (pi_range1 (by rfl) T.b_range (pa_cons (pv 2) pa_nil)) (blkOk_by (own := [("_law_k", 4)]) (N := N_llist) (sc := defScope s_llist) (by decide +kernel)) (fun _ _ _ _ _ => (pg_name (i := 4) sc.nd rfl (.inl rfl))) (fun _ _ _ _ _ => pts_nil) (fun _ _ _ _ _ => (pe_op o_mul (pe_callTy cr_intB (by rfl) T.b_int (by decide +kernel) (pa_cons (pe_cmpR op_eq (pv 4) (pv 3) (nomark _)) pa_nil)) (pe_op o_sub pe_int (pe_op o_mul pe_int (pe_h h_ldraw (hr.mono (by decide)) (by rfl) (pa_cons (pv 0) (pa_cons pe_int pa_nil))))))))))) pss_nil)
      (pss_one (ps_ret (pe_lc (own := [("_law_k", 4)]) (by rfl) sc.nd (pi_range1 (by rfl) T.b_range (pa_cons (pv 2) pa_nil)) (blkOk_by (own := [("_law_k", 4)]) (N := N_llist) (sc := defScope s_llist) (by decide +kernel)) (fun _ _ _ _ _ => (pg_name (i := 4) sc.nd rfl (.inl rfl))) (fun _ _ _ _ _ => pts_nil) (fun _ _ _ _ _ => (pe_h h_lnumber (hr.mono (by decide)) (by rfl) (pa_cons (pv 0) (pa_cons (pv 1) pa_nil))))))))))

abbrev s_lchoices : Stmt := topS 9
abbrev N_lchoices : List Str := ["_law_rows", "_law_size", "_law_last", "_law_k"]
theorem sc_lchoices : FnScope N_lchoices [] (defScope s_lchoices) := ⟨rfl, rfl, rfl, by decide +kernel, rfl, by decide +kernel, by decide +kernel⟩
theorem ok_lchoices {f : Addr} {fd : FuncData} (F : Fun K "_law_choices" "_law_choices" s_lchoices f fd) (T : Tx mg) : FnOk P w K mg base CX0 1 f fd [] (sp_lchoices K) := by
  have sc := sc_lchoices
  refine F.ok sc (len_lchoices K) (fun cdv A outer s H vs Q E hr h => ⟨t_lchoices K, ?_, rd_lchoices h⟩)
  exact (pss_cons (ps_set (i := 0) sc.nd rfl (.inl rfl) (pe_lst (pa_cons (pe_lst (pa_cons pe_int pa_nil)) pa_nil)))
      (pss_cons (ps_for PassesOwn.never rfl (pi_range1 (by rfl) T.b_range (pa_cons pe_int pa_nil)) (pg_name (i := 1) sc.nd rfl (.inl rfl))
      (pss_cons (ps_set (i := 2) sc.nd rfl (.inr rfl) (pe_ix ix_list (pv 0) (pe_un un_neg pe_int) (fun _ _ => rfl)))
      (pss_one (ps_expr (pe_bm PySem.F.plainAttrs_list PySem.F.slot_list_append PySem.F.type_list_append mt_append (pv 0) (pa_cons (pe_op op_cat (pe_op op_cat (pe_lst (pa_cons pe_int pa_nil)) (pe_lc (own := [("_law_k", 3)]) (by rfl) sc.nd (pi_range1 (by rfl) T.b_range (pa_cons (pv 1) pa_nil)) (blkOk_by (own := [("_law_k", 3)]) (N := N_lchoices) (sc := defScope s_lchoices) (by decide +kernel)) (fun _ _ _ _ _ => (pg_name (i := 3) sc.nd rfl (.inl rfl))) (fun _ _ _ _ _ => pts_nil) (fun _ _ _ _ _ => (pe_op o_add (pe_ix ix_list (pv 2) (pv 3) (fun _ _ => rfl)) (pe_ix ix_list (pv 2) (pe_op o_add (pv 3) pe_int) (fun _ _ => rfl)))))) (pe_lst (pa_cons pe_int pa_nil))) pa_nil))))))
      (pss_one (ps_ret (pv 0)))))

abbrev s_lsums : Stmt := topS 10
abbrev N_lsums : List Str := ["_law_some", "_law_sign", "_law_rows", "_law_n", "_law_found", "_law_k", "_law_total", "_law_i"]
theorem sc_lsums : FnScope N_lsums ["_law_some", "_law_sign"] (defScope s_lsums) := ⟨rfl, rfl, rfl, by decide +kernel, rfl, by decide +kernel, by decide +kernel⟩
theorem ok_lsums {f : Addr} {fd : FuncData} (F : Fun K "_law_sums" "_law_sums" s_lsums f fd) (T : Tx mg) (h_lchoices : Has P w K mg base "_law_choices" [] 1 (sp_lchoices K)) : FnOk P w K mg base CX0 2 f fd ["_law_some", "_law_sign"] (sp_lsums K) := by
  have sc := sc_lsums
  refine F.ok sc (len_lsums K) (fun cdv A outer s H vs Q E hr h => ⟨t_lsums K, ?_, rd_lsums h⟩)
  exact (pss_cons (ps_set (i := 2) sc.nd rfl (.inl rfl) (pe_h0 h_lchoices (hr.mono (by decide)) (by rfl)))
      (pss_cons (ps_set (i := 3) sc.nd rfl (.inl rfl) (pe_op o_sub (pe_callB cr_len (by rfl) T.b_len (by decide +kernel) (pa_cons (pv 0) pa_nil)) pe_int))
      (pss_cons (ps_set (i := 4) sc.nd rfl (.inl rfl) (pe_lst pa_nil))
      (pss_cons (ps_for PassesOwn.never rfl (pi_range1 (by rfl) T.b_range (pa_cons (pe_op o_add (pv 3) pe_int) pa_nil)) (pg_name (i := 5) sc.nd rfl (.inl rfl))
      (pss_cons (ps_set (i := 6) sc.nd rfl (.inl rfl) pe_int)
      (pss_cons (ps_for PassesOwn.never rfl (pi_range1 (by rfl) T.b_range (pa_cons (pe_op o_add (pv 5) pe_int) pa_nil)) (pg_name (i := 7) sc.nd rfl (.inl rfl))
      (pss_one (ps_set (i := 6) sc.nd rfl (.inl rfl) (pe_op o_add (pv 6) (pe_op o_mul (pe_op o_mul (pe_ix ix_list (pv 0) (pv 7) (fun _ _ => rfl)) (pe_ix ix_list (pe_ix ix_list (pv 2) (pe_op o_sub (pv 3) (pv 7)) (fun _ _ => rfl)) (pe_op o_sub (pv 5) (pv 7)) (fun _ _ => rfl))) (pe_ix ix_list (pe_lst (pa_cons pe_int (pa_cons (pv 1) pa_nil))) (pe_op o_mod (pe_op o_sub (pv 5) (pv 7)) pe_int) (fun _ _ => rfl)))))))
      (pss_one (ps_expr (pe_bm PySem.F.plainAttrs_list PySem.F.slot_list_append PySem.F.type_list_append mt_append (pv 4) (pa_cons (pv 6) pa_nil)))))))
      (pss_one (ps_ret (pv 4)))))))

abbrev s_lright : Stmt := topS 11
abbrev N_lright : List Str := ["_law_asked", "_law_back", "_law_some", "_law_sign", "_law_due", "_law_handed", "_law_turn", "_law_found"]
theorem sc_lright : FnScope N_lright ["_law_asked", "_law_back", "_law_some", "_law_sign"] (defScope s_lright) := ⟨rfl, rfl, rfl, by decide +kernel, rfl, by decide +kernel, by decide +kernel⟩
theorem ok_lright {f : Addr} {fd : FuncData} (F : Fun K "_law_right" "_law_right" s_lright f fd) (T : Tx mg) (h_lsums : Has P w K mg base "_law_sums" ["_law_some", "_law_sign"] 2 (sp_lsums K)) : FnG P w K mg base 3 f fd ["_law_asked", "_law_back", "_law_some", "_law_sign"] (sp_lright K P w mg base) := by
  have sc := sc_lright
  refine okG F sc (len_lright K P w mg base) (fun cdv A outer s H vs Q E hg hr h => ⟨t_lright K P w mg base, ?_, rd_lright h⟩)
  exact (pss_cons (ps_set (i := 4) sc.nd rfl (.inl rfl) (pe_h h_lsums (hr.mono (by decide)) (by rfl) (pa_cons (pv 2) (pa_cons (pv 3) pa_nil))))
      (pss_cons (ps_set (i := 5) sc.nd rfl (.inl rfl) (pe_callTy cr_list (by rfl) T.b_list (by decide +kernel) (pa_cons (pv 2) pa_nil)))
      (pss_cons (ps_for PassesOwn.never rfl (pi_range1 (by rfl) T.b_range (pa_cons pe_int pa_nil)) (pg_name (i := 6) sc.nd rfl (.inl rfl))
      (pss_cons (ps_set (i := 7) sc.nd rfl (.inl rfl) (pe_callF (k := 2) (hr.mono (by decide)) (i := 0) rfl (by first | exact Or.inl rfl | exact Or.inr (Or.inl rfl)) (pa_cons (pv 5) pa_nil)))
      (pss_cons (ps_if (PW.pt (pw_or (pt_cmpR op_ne (pe_callB (call_reprD hg hr.units) (by rfl) T.b_repr (by decide +kernel) (pa_cons (pv 7) pa_nil)) (pe_callB (call_reprD hg hr.units) (by rfl) T.b_repr (by decide +kernel) (pa_cons (pv 4) pa_nil)) (nomark _)) (pw_or1 (pt_cmpR op_ne (pe_callB (call_reprD hg hr.units) (by rfl) T.b_repr (by decide +kernel) (pa_cons (pv 5) pa_nil)) (pe_callB (call_reprD hg hr.units) (by rfl) T.b_repr (by decide +kernel) (pa_cons (pv 2) pa_nil)) (nomark _))))) (pss_one (ps_ret pe_bl)) pss_nil)
      (pss_cons (ps_if (PW.pt (pw_or (pt_cmpR op_ne (pe_callB (call_reprD hg hr.units) (by rfl) T.b_repr (by decide +kernel) (pa_cons (pe_callF (k := 2) (hr.mono (by decide)) (i := 1) rfl (by first | exact Or.inl rfl | exact Or.inr (Or.inl rfl)) (pa_cons (pv 7) pa_nil)) pa_nil)) (pe_callB (call_reprD hg hr.units) (by rfl) T.b_repr (by decide +kernel) (pa_cons (pv 2) pa_nil)) (nomark _)) (pw_or1 (pt_cmpR op_ne (pe_callB (call_reprD hg hr.units) (by rfl) T.b_repr (by decide +kernel) (pa_cons (pv 7) pa_nil)) (pe_callB (call_reprD hg hr.units) (by rfl) T.b_repr (by decide +kernel) (pa_cons (pv 4) pa_nil)) (nomark _))))) (pss_one (ps_ret pe_bl)) pss_nil)
      (pss_cons (ps_expr (pe_bm PySem.F.plainAttrs_list PySem.F.slot_list_append PySem.F.type_list_append mt_append (pv 7) (pa_cons pe_int pa_nil)))
      (pss_one (ps_asg pe_int (pg_sub (pv 7) pe_int set_list))))))))
      (pss_cons (ps_expr (pe_bm PySem.F.plainAttrs_list PySem.F.slot_list_append PySem.F.type_list_append mt_append (pv 5) (pa_cons pe_int pa_nil)))
      (pss_one (ps_ret (pe_cmpR op_eq (pe_callB (call_reprD hg hr.units) (by rfl) T.b_repr (by decide +kernel) (pa_cons (pe_callF (k := 2) (hr.mono (by decide)) (i := 0) rfl (by first | exact Or.inl rfl | exact Or.inr (Or.inl rfl)) (pa_cons (pe_callTy cr_list (by rfl) T.b_list (by decide +kernel) (pa_cons (pv 2) pa_nil)) pa_nil)) pa_nil)) (pe_callB (call_reprD hg hr.units) (by rfl) T.b_repr (by decide +kernel) (pa_cons (pv 4) pa_nil)) (nomark _))))))))

abbrev s_law : Stmt := topS 12
abbrev N_law : List Str := ["_law_script", "_law_pen", "_law_k", "_law_some"]
theorem sc_law : FnScope N_law ["_law_script"] (defScope s_law) := ⟨rfl, rfl, rfl, by decide +kernel, rfl, by decide +kernel, by decide +kernel⟩
theorem ok_law {f : Addr} {fd : FuncData} (F : Fun K "law" "law" s_law f fd) (T : Tx mg) (h_llist : Has P w K mg base "_law_list" ["_law_pen"] 4 (sp_llist K)) (h_lright : HasG P w K mg base "_law_right" ["_law_asked", "_law_back", "_law_some", "_law_sign"] 3 (sp_lright K P w mg base)) {f_counts_from : Addr} (g_counts_from : mg "counts_from" = some (.ref f_counts_from)) (h_counts_from : Has P w K mg base "counts_from" ["brought"] 2 (sp_counts_from K)) {f_brought_from : Addr} (g_brought_from : mg "brought_from" = some (.ref f_brought_from)) (h_brought_from : Has P w K mg base "brought_from" ["counts"] 2 (sp_brought_from K)) : FnG P w K mg base 5 f fd ["_law_script"] (sp_law K) := by
  have sc := sc_law
  refine okG F sc (len_law K) (fun cdv A outer s H vs Q E hg hr h => ⟨t_law K P w mg base f_counts_from f_brought_from, ?_, rd_law (h_counts_from.held g_counts_from) (h_brought_from.held g_brought_from) h⟩)
  exact (pss_cons (ps_set (i := 1) sc.nd rfl (.inl rfl) (pe_lst (pa_cons (pv 0) (pa_cons pe_int (pa_cons pe_int pa_nil)))))
      (pss_cons (ps_for PassesOwn.never rfl (pi_range1 (by rfl) T.b_range (pa_cons pe_int pa_nil)) (pg_name (i := 2) sc.nd rfl (.inl rfl))
      (pss_cons (ps_set (i := 3) sc.nd rfl (.inl rfl) (pe_h h_llist (hr.mono (by decide)) (by rfl) (pa_cons (pv 1) pa_nil)))
      (pss_one (ps_if (PW.pt (pw_or (pt_not (pt_val (pe_g h_lright hg (hr.mono (by decide)) (by rfl) (pa_cons (pe_glob (by rfl) g_brought_from rfl) (pa_cons (pe_glob (by rfl) g_counts_from rfl) (pa_cons (pv 3) (pa_cons (pe_un un_neg pe_int) pa_nil))))))) (pw_or1 (pt_not (pt_val (pe_g h_lright hg (hr.mono (by decide)) (by rfl) (pa_cons (pe_glob (by rfl) g_counts_from rfl) (pa_cons (pe_glob (by rfl) g_brought_from rfl) (pa_cons (pv 3) (pa_cons pe_int pa_nil)))))))))) (pss_one (ps_ret pe_bl)) pss_nil))))
      (pss_one (ps_ret pe_bl))))

end
/-! ## what the top has left -/
theorem all_mk {l : PySem.W.OpenLaw} {w : World} {K : PySem.W.Frag} {h : Heap} {mg : Str → Option Value} {fa f0 f1 f2 f3 f4 f5 f6 f7 f8 f9 f10 : Addr} (X : K.In h) (G : h.Ns mainGlobals mg) (hfa : mg "law" = some (.ref fa))
    {od0 an0 od1 an1 od2 an2 od3 an3 od4 an4 od5 an5 od6 an6 od7 an7 od8 an8 od9 an9 od10 an10 : Option Addr} {sl0 sl1 sl2 sl3 sl4 sl5 sl6 sl7 sl8 sl9 sl10 : Array (Option Value)} {oc0 kV0 dc0 pm0 cd0 ct0 oc1 kV1 dc1 pm1 cd1 ct1 oc2 kV2 dc2 pm2 cd2 ct2 oc3 kV3 dc3 pm3 cd3 ct3 oc4 kV4 dc4 pm4 cd4 ct4 oc5 kV5 dc5 pm5 cd5 ct5 oc6 kV6 dc6 pm6 cd6 ct6 oc7 kV7 dc7 pm7 cd7 ct7 oc8 kV8 dc8 pm8 cd8 ct8 oc9 kV9 dc9 pm9 cd9 ct9 oc10 kV10 dc10 pm10 cd10 ct10 : Value}
    (a0 : PySem.W.nsIn K mainGlobals "choices" = some (some (.ref f0))) (l0 : K.lookup f0 = some ⟨oc0, od0, .func (PySem.W.fnOf "choices" "choices" (defArgs s_choices) (defBody s_choices) (defScope s_choices) .none kV0 dc0 pm0 an0 cd0 ct0), sl0⟩) (c0 : PySem.W.codeIn K cd0 "choices" = true) (k0 : PySem.W.keepIn K (.ref f0) = true)
    (a1 : PySem.W.nsIn K mainGlobals "brought_from" = some (some (.ref f1))) (l1 : K.lookup f1 = some ⟨oc1, od1, .func (PySem.W.fnOf "brought_from" "brought_from" (defArgs s_brought_from) (defBody s_brought_from) (defScope s_brought_from) .none kV1 dc1 pm1 an1 cd1 ct1), sl1⟩) (c1 : PySem.W.codeIn K cd1 "brought_from" = true) (k1 : PySem.W.keepIn K (.ref f1) = true)
    (a2 : PySem.W.nsIn K mainGlobals "counts_from" = some (some (.ref f2))) (l2 : K.lookup f2 = some ⟨oc2, od2, .func (PySem.W.fnOf "counts_from" "counts_from" (defArgs s_counts_from) (defBody s_counts_from) (defScope s_counts_from) .none kV2 dc2 pm2 an2 cd2 ct2), sl2⟩) (c2 : PySem.W.codeIn K cd2 "counts_from" = true) (k2 : PySem.W.keepIn K (.ref f2) = true)
    (a3 : PySem.W.nsIn K mainGlobals "_law_draw" = some (some (.ref f3))) (l3 : K.lookup f3 = some ⟨oc3, od3, .func (PySem.W.fnOf "_law_draw" "_law_draw" (defArgs s_ldraw) (defBody s_ldraw) (defScope s_ldraw) .none kV3 dc3 pm3 an3 cd3 ct3), sl3⟩) (c3 : PySem.W.codeIn K cd3 "_law_draw" = true) (k3 : PySem.W.keepIn K (.ref f3) = true)
    (a4 : PySem.W.nsIn K mainGlobals "_law_wide" = some (some (.ref f4))) (l4 : K.lookup f4 = some ⟨oc4, od4, .func (PySem.W.fnOf "_law_wide" "_law_wide" (defArgs s_lwide) (defBody s_lwide) (defScope s_lwide) .none kV4 dc4 pm4 an4 cd4 ct4), sl4⟩) (c4 : PySem.W.codeIn K cd4 "_law_wide" = true) (k4 : PySem.W.keepIn K (.ref f4) = true)
    (a5 : PySem.W.nsIn K mainGlobals "_law_number" = some (some (.ref f5))) (l5 : K.lookup f5 = some ⟨oc5, od5, .func (PySem.W.fnOf "_law_number" "_law_number" (defArgs s_lnumber) (defBody s_lnumber) (defScope s_lnumber) .none kV5 dc5 pm5 an5 cd5 ct5), sl5⟩) (c5 : PySem.W.codeIn K cd5 "_law_number" = true) (k5 : PySem.W.keepIn K (.ref f5) = true)
    (a6 : PySem.W.nsIn K mainGlobals "_law_list" = some (some (.ref f6))) (l6 : K.lookup f6 = some ⟨oc6, od6, .func (PySem.W.fnOf "_law_list" "_law_list" (defArgs s_llist) (defBody s_llist) (defScope s_llist) .none kV6 dc6 pm6 an6 cd6 ct6), sl6⟩) (c6 : PySem.W.codeIn K cd6 "_law_list" = true) (k6 : PySem.W.keepIn K (.ref f6) = true)
    (a7 : PySem.W.nsIn K mainGlobals "_law_choices" = some (some (.ref f7))) (l7 : K.lookup f7 = some ⟨oc7, od7, .func (PySem.W.fnOf "_law_choices" "_law_choices" (defArgs s_lchoices) (defBody s_lchoices) (defScope s_lchoices) .none kV7 dc7 pm7 an7 cd7 ct7), sl7⟩) (c7 : PySem.W.codeIn K cd7 "_law_choices" = true) (k7 : PySem.W.keepIn K (.ref f7) = true)
    (a8 : PySem.W.nsIn K mainGlobals "_law_sums" = some (some (.ref f8))) (l8 : K.lookup f8 = some ⟨oc8, od8, .func (PySem.W.fnOf "_law_sums" "_law_sums" (defArgs s_lsums) (defBody s_lsums) (defScope s_lsums) .none kV8 dc8 pm8 an8 cd8 ct8), sl8⟩) (c8 : PySem.W.codeIn K cd8 "_law_sums" = true) (k8 : PySem.W.keepIn K (.ref f8) = true)
    (a9 : PySem.W.nsIn K mainGlobals "_law_right" = some (some (.ref f9))) (l9 : K.lookup f9 = some ⟨oc9, od9, .func (PySem.W.fnOf "_law_right" "_law_right" (defArgs s_lright) (defBody s_lright) (defScope s_lright) .none kV9 dc9 pm9 an9 cd9 ct9), sl9⟩) (c9 : PySem.W.codeIn K cd9 "_law_right" = true) (k9 : PySem.W.keepIn K (.ref f9) = true)
    (a10 : PySem.W.nsIn K mainGlobals "law" = some (some (.ref f10))) (l10 : K.lookup f10 = some ⟨oc10, od10, .func (PySem.W.fnOf "law" "law" (defArgs s_law) (defBody s_law) (defScope s_law) .none kV10 dc10 pm10 an10 cd10 ct10), sl10⟩) (c10 : PySem.W.codeIn K cd10 "law" = true) (k10 : PySem.W.keepIn K (.ref f10) = true)
    (z0 : PySem.W.nsIn K mainGlobals "range" = some none)
    (z1 : PySem.W.nsIn K mainGlobals "len" = some none)
    (z2 : PySem.W.nsIn K mainGlobals "sum" = some none)
    (z3 : PySem.W.nsIn K mainGlobals "abs" = some none)
    (z4 : PySem.W.nsIn K mainGlobals "str" = some none)
    (z5 : PySem.W.nsIn K mainGlobals "int" = some none)
    (z6 : PySem.W.nsIn K mainGlobals "list" = some none)
    (z7 : PySem.W.nsIn K mainGlobals "repr" = some none) :
    ∃ fd : FuncData, (∀ (s : Shared) (v : Value), BindsTo s fd ⟨[v], []⟩ [("_law_script", v)]) ∧ ∀ base : Heap, K.In base → base.Ns mainGlobals mg → FnG l.prog w K mg base 5 fa fd ["_law_script"] (sp_law K) := by
  have e := hfa.symm.trans (PySem.W.mg_of X G a10)
  cases e
  have T : Tx mg := ⟨PySem.W.mg_none_of X G z0, PySem.W.mg_none_of X G z1, PySem.W.mg_none_of X G z2, PySem.W.mg_none_of X G z3, PySem.W.mg_none_of X G z4, PySem.W.mg_none_of X G z5, PySem.W.mg_none_of X G z6, PySem.W.mg_none_of X G z7⟩
  have F0 := fun_mk (st := s_choices) l0 c0 k0
  have b0 := F0.binds (ps := ["many", "some"]) fun _ _ _ _ _ _ us hl => match us, hl with | [_, _], _ => rfl
  have F1 := fun_mk (st := s_brought_from) l1 c1 k1
  have b1 := F1.binds (ps := ["counts"]) fun _ _ _ _ _ _ us hl => match us, hl with | [_], _ => rfl
  have F2 := fun_mk (st := s_counts_from) l2 c2 k2
  have b2 := F2.binds (ps := ["brought"]) fun _ _ _ _ _ _ us hl => match us, hl with | [_], _ => rfl
  have F3 := fun_mk (st := s_ldraw) l3 c3 k3
  have b3 := F3.binds (ps := ["_law_pen", "_law_many"]) fun _ _ _ _ _ _ us hl => match us, hl with | [_, _], _ => rfl
  have F4 := fun_mk (st := s_lwide) l4 c4 k4
  have b4 := F4.binds (ps := ["_law_pen", "_law_many"]) fun _ _ _ _ _ _ us hl => match us, hl with | [_, _], _ => rfl
  have F5 := fun_mk (st := s_lnumber) l5 c5 k5
  have b5 := F5.binds (ps := ["_law_pen", "_law_way"]) fun _ _ _ _ _ _ us hl => match us, hl with | [_, _], _ => rfl
  have F6 := fun_mk (st := s_llist) l6 c6 k6
  have b6 := F6.binds (ps := ["_law_pen"]) fun _ _ _ _ _ _ us hl => match us, hl with | [_], _ => rfl
  have F7 := fun_mk (st := s_lchoices) l7 c7 k7
  have b7 := F7.binds (ps := []) fun _ _ _ _ _ _ us hl => match us, hl with | [], _ => rfl
  have F8 := fun_mk (st := s_lsums) l8 c8 k8
  have b8 := F8.binds (ps := ["_law_some", "_law_sign"]) fun _ _ _ _ _ _ us hl => match us, hl with | [_, _], _ => rfl
  have F9 := fun_mk (st := s_lright) l9 c9 k9
  have b9 := F9.binds (ps := ["_law_asked", "_law_back", "_law_some", "_law_sign"]) fun _ _ _ _ _ _ us hl => match us, hl with | [_, _, _, _], _ => rfl
  have F10 := fun_mk (st := s_law) l10 c10 k10
  have b10 := F10.binds (ps := ["_law_script"]) fun _ _ _ _ _ _ us hl => match us, hl with | [_], _ => rfl
  refine ⟨PySem.W.fnOf "law" "law" (defArgs s_law) (defBody s_law) (defScope s_law) .none kV10 dc10 pm10 an10 cd10 ct10, fun s v => BindsTo.of_eq rfl, fun base _ _ => ?_⟩
  have H0 : Has l.prog w K mg base "choices" ["many", "some"] 1 (sp_choices K) := ⟨f0, _, PySem.W.mg_of X G a0, k0, b0, ok_choices F0 T⟩
  have H1 : Has l.prog w K mg base "brought_from" ["counts"] 2 (sp_brought_from K) := ⟨f1, _, PySem.W.mg_of X G a1, k1, b1, ok_brought_from F1 T H0⟩
  have H2 : Has l.prog w K mg base "counts_from" ["brought"] 2 (sp_counts_from K) := ⟨f2, _, PySem.W.mg_of X G a2, k2, b2, ok_counts_from F2 T H0⟩
  have H3 : Has l.prog w K mg base "_law_draw" ["_law_pen", "_law_many"] 1 (sp_ldraw K) := ⟨f3, _, PySem.W.mg_of X G a3, k3, b3, ok_ldraw F3 T⟩
  have H4 : Has l.prog w K mg base "_law_wide" ["_law_pen", "_law_many"] 2 (sp_lwide K) := ⟨f4, _, PySem.W.mg_of X G a4, k4, b4, ok_lwide F4 T H3⟩
  have H5 : Has l.prog w K mg base "_law_number" ["_law_pen", "_law_way"] 3 (sp_lnumber K) := ⟨f5, _, PySem.W.mg_of X G a5, k5, b5, ok_lnumber F5 T H3 H4⟩
  have H6 : Has l.prog w K mg base "_law_list" ["_law_pen"] 4 (sp_llist K) := ⟨f6, _, PySem.W.mg_of X G a6, k6, b6, ok_llist F6 T H3 H5⟩
  have H7 : Has l.prog w K mg base "_law_choices" [] 1 (sp_lchoices K) := ⟨f7, _, PySem.W.mg_of X G a7, k7, b7, ok_lchoices F7 T⟩
  have H8 : Has l.prog w K mg base "_law_sums" ["_law_some", "_law_sign"] 2 (sp_lsums K) := ⟨f8, _, PySem.W.mg_of X G a8, k8, b8, ok_lsums F8 T H7⟩
  have H9 : HasG l.prog w K mg base "_law_right" ["_law_asked", "_law_back", "_law_some", "_law_sign"] 3 (sp_lright K l.prog w mg base) := ⟨f9, _, PySem.W.mg_of X G a9, k9, b9, ok_lright F9 T H8⟩
  exact ok_law F10 T H6 H9 (PySem.W.mg_of X G a2) H2 (PySem.W.mg_of X G a1) H1

end Ws

open PySem PySem.W PyProof.Rows in
set_option maxRecDepth 100000 in
set_option maxHeartbeats 0 in
theorem PySem.Challenge.cw_wholesides_k07_counts_both_ways_holds : PySem.Challenge.rw_wholesides_k07_counts_both_ways.Holds := by
  w_on; o_law; k_head; (case hw => w_witness2)
  k_fill
  refine Ws.walkG (l := PySem.Challenge.rw_wholesides_k07_counts_both_ways) (n := 63) (k := 5) (x := "_law_script") (sp := fun w => Ws.sp_law _) rfl (by decide) rfl ⟨rfl, by decide, by decide⟩ (fun w h Y => PySem.W.kIn_of Y) ?F (fun w H a ns hl hS hH => ⟨a, ns, rfl, Ws.fz_of hS hH, fun _ => rfl⟩)
  case F =>
    intro w mg fa h KX G hmg
    refine' Ws.all_mk KX G hmg ?a0 ?l0 ?c0 ?k0 ?a1 ?l1 ?c1 ?k1 ?a2 ?l2 ?c2 ?k2 ?a3 ?l3 ?c3 ?k3 ?a4 ?l4 ?c4 ?k4 ?a5 ?l5 ?c5 ?k5 ?a6 ?l6 ?c6 ?k6 ?a7 ?l7 ?c7 ?k7 ?a8 ?l8 ?c8 ?k8 ?a9 ?l9 ?c9 ?k9 ?a10 ?l10 ?c10 ?k10 ?z0 ?z1 ?z2 ?z3 ?z4 ?z5 ?z6 ?z7
    (case a0 => k_is)
    (case l0 => k_is)
    (case c0 => k_is)
    (case k0 => k_is)
    (case a1 => k_is)
    (case l1 => k_is)
    (case c1 => k_is)
    (case k1 => k_is)
    (case a2 => k_is)
    (case l2 => k_is)
    (case c2 => k_is)
    (case k2 => k_is)
    (case a3 => k_is)
    (case l3 => k_is)
    (case c3 => k_is)
    (case k3 => k_is)
    (case a4 => k_is)
    (case l4 => k_is)
    (case c4 => k_is)
    (case k4 => k_is)
    (case a5 => k_is)
    (case l5 => k_is)
    (case c5 => k_is)
    (case k5 => k_is)
    (case a6 => k_is)
    (case l6 => k_is)
    (case c6 => k_is)
    (case k6 => k_is)
    (case a7 => k_is)
    (case l7 => k_is)
    (case c7 => k_is)
    (case k7 => k_is)
    (case a8 => k_is)
    (case l8 => k_is)
    (case c8 => k_is)
    (case k8 => k_is)
    (case a9 => k_is)
    (case l9 => k_is)
    (case c9 => k_is)
    (case k9 => k_is)
    (case a10 => k_is)
    (case l10 => k_is)
    (case c10 => k_is)
    (case k10 => k_is)
    (case z0 => k_is)
    (case z1 => k_is)
    (case z2 => k_is)
    (case z3 => k_is)
    (case z4 => k_is)
    (case z5 => k_is)
    (case z6 => k_is)
    (case z7 => k_is)


