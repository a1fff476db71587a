import PyProof.Rows.All
import Wide.All
import OpenK.AllK
import Wide.FinOn
import HandS.ForMost
import HandS.NoneIn
import HandS.CallLocal
import PyProof.ReprRoads
import KE.SortKeyHeap
import HandS.SortKw
import HandS.Strs
import HandS.SetFor
import HandS.TupAny
import HandS.TupSets
import HandS.Style
import HandS.Conv
import HandS.Deep
import HandS.IsInst
import HandS.Steps
import HandS.Small
import HandS.TupLen
import PySem.Challenge.RW_wholesides_k12_whole_all_faces_of_what_c
set_option Elab.async false
set_option linter.all false
set_option maxRecDepth 100000
set_option maxHeartbeats 4000000
namespace Ws
open PySem PySem.Spec PyProof.Rows L2
/-! # Contracts of defs that are called where no repr is under way -/

/-- a def's promise, kept wherever the stack bears no running repr -/
structure FnG (P : Program) (w : World) (K : PySem.W.Frag) (mg : Str → Option Value) (base : Heap) (k : Nat) (f : Addr) (fd : FuncData) (ps : List Str) (sp : Sp) : Prop where
  len : ∀ vs H Q E, sp vs H Q E → vs.length = ps.length
  run : ∀ (A : Around) (outer : List Env) (s : Shared) (H : Hp) (args : Args) (us : List Value) (vs : List V) (Q : VK) (E : XK), A.guards = some [] → Room k A →
    Env0 P w K mg base A outer s H → BindsTo s fd args (ps.zip us) → Vals vs us → sp vs H Q E → codeAny (model P w) A (.call (.ref f) args) (CR CX0 outer P w H s Q E) s

section
variable {P : Program} {w : World} {K : PySem.W.Frag} {mg : Str → Option Value} {base : Heap} {k : Nat} {f : Addr} {fd : FuncData} {ps : List Str} {sp : Sp}
theorem FnG.of (F : FnOk P w K mg base CX0 k f fd ps sp) : FnG P w K mg base k f fd ps sp :=
  ⟨F.len, fun A outer s H args us vs Q E _ => F.run A outer s H args us vs Q E⟩
theorem FnG.up {j : Nat} (F : FnG P w K mg base j f fd ps sp) (h : j ≤ k) : FnG P w K mg base k f fd ps sp :=
  ⟨F.len, fun A outer s H args us vs Q E hg hr => F.run A outer s H args us vs Q E hg (hr.mono h)⟩

/-- the body of such a def: what is known besides is that no repr runs -/
theorem okG {x qual : Str} {st : Stmt} {N : List Str} (F : Fun K x qual st f fd) (S : FnScope N ps (defScope st)) (len : ∀ vs H Q E, sp vs H Q E → vs.length = ps.length)
    (hbody : ∀ (cdv : Value) (A : Around) (outer : List Env) (s : Shared) (H : Hp) (vs : List V) (Q : VK) (E : XK), (A.deeper (envOfC qual (defScope st) s.heap.objs.size f cdv)).guards = some [] →
      Room k (A.deeper (envOfC qual (defScope st) s.heap.objs.size f cdv)) → sp vs H Q E →
      ∃ t, PSs (cxOf CX0 P w K mg base N qual (defScope st) f cdv A outer s H E).nox (defBody st) t ∧ t { nx := fun _ H' => Q .non H', rt := Q } (start N vs) H) :
    FnG P w K mg base (k + 1) f fd ps sp := by
  obtain ⟨oc, od, kV, doc, pm, an, cdv, ct, osl, rfl, lk, hcd⟩ := F.ex
  refine ⟨len, fun A outer s H args us vs Q E hg hr e0 hb r hsp => ?_⟩
  have kept : ∀ b o, base.get? b = some o → s.heap.get? b = some o := fun b o e => (e0.bs b o e).1
  have KX : K.In s.heap := e0.mod.kin.keeps kept
  refine codeAny_call_function hr.depth (KX _ _ lk) rfl S.co S.gen rfl (PySem.W.codeRec_of KX hcd) (hb _ _ _ _ ?_)
  refine wpAny_newFunctionEnv_cells S.kind (fun y hy => ?_) fun env he s1 x => ?_
  · rcases S.par y.1 (List.of_mem_zip (show (y.1, y.2) ∈ ps.zip us from hy)).1 with q | q
    · exact .inl q
    · exact .inr ⟨q, PySem.W.cellsFrom_some _ _ _ (.inl q)⟩
  · subst he
    obtain ⟨t, ht, hq⟩ := hbody cdv A outer s H vs Q E hg (hr.deeper _) hsp
    refine ⟨(e0.mod.nolimit.keeps kept).keeps x.toInCall.keep, codeAny_func (wpAny_mono (ht.nox.run [] s1 (start N vs) H _ (inv_start S hr.hd e0 (len _ _ _ _ hsp) r x) hq) (fun fl s' hs => ?_) fun e s' hs => hs)⟩
    cases fl with
    | ret u => exact let ⟨v, _, H', J, rv, q⟩ := hs; ⟨v, H', J.os, J.bare, J.base, J.hok, rv, q⟩
    | next => exact let ⟨_, H', J, q⟩ := hs; ⟨V.non, H', J.os, J.bare, J.base, J.hok, rfl, q⟩
    | brk => exact let ⟨_, _, _, q⟩ := hs; q.elim
    | cont => exact let ⟨_, _, _, q⟩ := hs; q.elim
end

/-! ## defs by their names -/
/-- the module's name x holds a def that keeps sp -/
structure Has (P : Program) (w : World) (K : PySem.W.Frag) (mg : Str → Option Value) (base : Heap) (x : Str) (ps : List Str) (k : Nat) (sp : Sp) : Prop where
  ex : ∃ (f : Addr) (fd : FuncData), mg x = some (.ref f) ∧ PySem.W.keepIn K (.ref f) = true ∧ Binds K fd ps [] ∧ FnOk P w K mg base CX0 k f fd ps sp
structure HasG (P : Program) (w : World) (K : PySem.W.Frag) (mg : Str → Option Value) (base : Heap) (x : Str) (ps : List Str) (k : Nat) (sp : Sp) : Prop where
  ex : ∃ (f : Addr) (fd : FuncData), mg x = some (.ref f) ∧ PySem.W.keepIn K (.ref f) = true ∧ Binds K fd ps [] ∧ FnG P w K mg base k f fd ps sp
/-- the def at the address f keeps sp -/
structure At (P : Program) (w : World) (K : PySem.W.Frag) (mg : Str → Option Value) (base : Heap) (f : Addr) (k : Nat) (sp : Sp) : Prop where
  ex : ∃ (fd : FuncData) (ps : List Str), PySem.W.keepIn K (.ref f) = true ∧ Binds K fd ps [] ∧ FnOk P w K mg base CX0 k f fd ps sp

section
variable {X : Cx} {x : Str} {ps : List Str} {k : Nat} {sp : Sp} {p pos : Pos} {e : Expr} {es : List Expr} {t : TA}
theorem Has.g {P : Program} {w : World} {K : PySem.W.Frag} {mg : Str → Option Value} {base : Heap} (h : Has P w K mg base x ps k sp) : HasG P w K mg base x ps k sp :=
  let ⟨f, fd, h1, h2, h3, h4⟩ := h.ex
  ⟨f, fd, h1, h2, h3, .of h4⟩
theorem pe_h (h : Has X.prog X.w X.K X.mg X.base x ps k sp) (hr : Room k X.A) (hg : Gl X x) (ha : PA X (e :: es) t) (hdb : (x == ("__debug__" : Str)) = false := by decide)
    (he : starEach (e :: es) X.env = (false, eval e X.env) :: starEach es X.env := by rfl) (hpl : (backTo pos (starEach es X.env)).any (·.1) = false := by rfl) :
    PE X (.Call (.Name x p) (e :: es) [] pos) (tCall sp [] E0 t) := by
  obtain ⟨f, fd, hm, hk, hb, F⟩ := h.ex
  exact pe_call F hr hg hm hk hb .nil pass0 ha hdb he hpl
theorem pe_h0 (h : Has X.prog X.w X.K X.mg X.base x ps k sp) (hr : Room k X.A) (hg : Gl X x) (hdb : (x == ("__debug__" : Str)) = false := by decide) :
    PE X (.Call (.Name x p) [] [] pos) (tCall sp [] E0 tNil) := by
  obtain ⟨f, fd, hm, hk, hb, F⟩ := h.ex
  exact pe_call0 F hr hg hm hk hb .nil pass0 hdb
/-- a call of a def that needs to know that no repr runs -/
theorem pe_g (h : HasG X.prog X.w X.K X.mg X.base x ps k sp) (hq : X.A.guards = some []) (hr : Room k X.A) (hg : Gl X x) (ha : PA X (e :: es) t) (hdb : (x == ("__debug__" : Str)) = false := by decide)
    (he : starEach (e :: es) X.env = (false, eval e X.env) :: starEach es X.env := by rfl) (hpl : (backTo pos (starEach es X.env)).any (·.1) = false := by rfl) :
    PE X (.Call (.Name x p) (e :: es) [] pos) (tCall sp [] E0 t) := by
  obtain ⟨f, fd, hm, hk, hb, F⟩ := h.ex
  refine ⟨fun pins s σ H Q I hw => wpAny_Call_Name_kw (ld_glob I hg hm ?_ hdb)⟩
  refine PySem.W.callWith_K (h₀ := X.base) I.ok.mod.kin hk (thn (ha.run pos pins s σ H _ I hw) fun us s1 ⟨vs, H1, I1, r, q⟩ => ⟨I1.kIn, ?_⟩) he hpl
  have r2 : Vals (vs ++ []) (us ++ []) := r.append .nil
  have hl : (us ++ []).length = ps.length := r2.length.symm.trans (F.len _ _ _ _ q)
  refine wpAny_call (codeAny_mono (F.run X.A X.stack s1 H1 ⟨us, []⟩ _ _ Q E0 hq hr I1.env0 (hb s1 us I1.kIn hl) r2 q) fun res s' hs => ?_)
  match res, hs with
  | .error _, z => exact False.elim z
  | .ok (.ret u), z => exact I1.after z
  | .ok .next, z => exact False.elim z
  | .ok .brk, z => exact False.elim z
  | .ok .cont, z => exact False.elim z
end

/-- a statement, then the rest; between them a word, from which the rest is shown once -/
def tCut (t u : TS) : TS := fun D σ H => ∃ M : L2.St → Hp → Prop, t { D with nx := M } σ H ∧ ∀ σ' H', M σ' H' → u D σ' H'
theorem pss_cut {X : Cx} {st : Stmt} {rest : List Stmt} {t u : TS} (h1 : PS X st t) (h2 : PSs X rest u) : PSs X (st :: rest) (tCut t u) := by
  refine ⟨fun pins s σ H D I ⟨M, hm, hu⟩ => wpAny_execs_cons (thn (h1.run pins s σ H _ I hm) fun f s1 q => ?_)⟩
  match f, q with
  | .next, ⟨σ', H', I', m⟩ => exact h2.run pins s1 σ' H' D I' (hu σ' H' m)
  | .ret _, q => exact q
  | .brk, q => exact q
  | .cont, q => exact q

/-! ## a local that holds a def: whatever def it is, its promise goes with it -/
def tCallF (P : Program) (w : World) (K : PySem.W.Frag) (mg : Str → Option Value) (base : Heap) (k i : Nat) (t : TA) : TE := fun σ H Q => ∃ f sp, σ[i]? = some (some (.ref f)) ∧ Held P w K mg base k f sp ∧ t σ H fun vs H1 => sp vs H1 Q E0
theorem pe_callF {X : Cx} {k i : Nat} {x : Str} {p pos : Pos} {e : Expr} {es : List Expr} {t : TA} (hr : Room k X.A) (hN : X.N[i]? = some x) (hv : Vis X.env.scope x) (ha : PA X (e :: es) t)
    (hdb : (x == ("__debug__" : Str)) = false := by decide) (hcd : (x == ("__classdict__" : Str)) = false := by decide)
    (he : starEach (e :: es) X.env = (false, eval e X.env) :: starEach es X.env := by rfl) (hpl : (backTo pos (starEach es X.env)).any (·.1) = false := by rfl) :
    PE X (.Call (.Name x p) (e :: es) [] pos) (tCallF X.prog X.w X.K X.mg X.base k i t) := by
  classical
  refine ⟨fun pins s σ H Q I h => ?_⟩
  obtain ⟨f, sp, h1, h2, h3⟩ := h
  exact (pe_callA (k := k) (i := i) (S := fun g => if g = f then some sp else none) (fun g sp' e => by
    by_cases hgf : g = f
    · rw [if_pos hgf] at e
      cases e
      exact hgf ▸ h2
    · rw [if_neg hgf] at e
      cases e) hr hN hv ha hdb hcd he hpl).run pins s σ H Q I ⟨f, sp, h1, if_pos rfl, h3⟩
theorem Has.held {P : Program} {w : World} {K : PySem.W.Frag} {mg : Str → Option Value} {base : Heap} {x : Str} {ps : List Str} {k : Nat} {sp : Sp} {f : Addr} (h : Has P w K mg base x ps k sp) (g : mg x = some (.ref f)) : Held P w K mg base k f sp := by
  obtain ⟨f', fd, h1, h2, h3, h4⟩ := h.ex
  rw [g] at h1
  cases h1
  exact ⟨fd, ps, h4, h2, h3⟩

/-! ## the end of a law row, from a promise that knows that no repr runs -/
theorem endG {P : Program} {w : World} {K : PySem.W.Frag} {mg mb : Str → Option Value} {k : Nat} {fa a : Addr} {fd : FuncData} {x : Str} {sp : Sp} {s₁ : Shared} {vs : List Value} {H : Hp}
    (KX : K.In s₁.heap) (hns : s₁.heap.Ns mainGlobals mg) (hb : s₁.heap.Ns builtinsNs mb) (hbb : ∀ x : Str, x ≠ "__name__" → mb x = bootBuiltins x) (hlim : s₁.heap.NoLimit) (hg : s₁.gens = #[])
    (ha : s₁.heap.get? a = some { cls := .type "list", data := .seq vs.toArray }) (hr : Room k callerA)
    (F : ∀ base : Heap, K.In base → base.Ns mainGlobals mg → FnG P w K mg base k fa fd [x] sp) (hbind : ∀ (s : Shared) (u : Value), BindsTo s fd ⟨[u], []⟩ [(x, u)])
    (hsp : sp [.ref a] H (fun v _ => v = .bl true) fun _ _ _ => False) (hok : HOk P w H s₁.heap)
    (hH : ∀ b u, H b = some u → b = a ∧ K.lookup a = none ∧ ∃ o v, u = .frz o v) :
    codeAny (model P w) callerA (.call (.ref fa) ⟨[.ref a], []⟩) (fun r s' => r = .ok (.ret (.bool true)) ∧ OldK s₁.heap s'.heap ∧ s'.os = s₁.os ∧ AllBare s'.gens) s₁ := by
  -- what is no list at a is not tracked
  have free : ∀ {b : Addr} {o : Obj}, s₁.heap.get? b = some o → (∀ xs n, o.data ≠ .seq xs n) → H b = none := fun {b o} e d => by
    cases q : H b with
    | none => rfl
    | some u =>
      obtain ⟨rfl, _⟩ := hH b u q
      rw [ha] at e
      cases e
      exact absurd rfl (d _ _)
  have ns : ∀ {b : Addr} {m : Str → Option Value}, s₁.heap.Ns b m → (hidT s₁.heap H).Ns b m := fun {b m} z => by
    obtain ⟨o, es, ep, e, d, r⟩ := z
    exact ⟨o, es, ep, hidT_get e (free e fun _ _ z => by rw [d] at z; cases z), d, r⟩
  have kin : K.In (hidT s₁.heap H) := fun b o e => hidT_get (KX b o e) (by
    cases q : H b with
    | none => rfl
    | some u =>
      obtain ⟨rfl, h2, _⟩ := hH b u q
      rw [h2] at e
      cases e)
  have lim : (hidT s₁.heap H).NoLimit := by
    obtain ⟨mc, h1, h2⟩ := hlim
    exact ⟨mc, ns h1, h2⟩
  have e0 : Env0 P w K mg (hidT s₁.heap H) callerA [] s₁ H := ⟨rfl, ⟨kin, ns hns, ⟨mb, ns hb, hbb⟩, lim⟩, fun b o e => of_hidT e, Nat.le_of_eq (hidT_size _ _), trivial, fun b z => (List.not_mem_nil (show b ∈ ([] : List Addr) from z)).elim, hok, .of_eq hg⟩
  refine codeAny_mono ((F _ kin (ns hns)).run callerA [] s₁ H ⟨[.ref a], []⟩ [.ref a] [.ref a] _ _ rfl hr e0 (hbind s₁ (.ref a)) (.cons rfl .nil) hsp) fun r s' h => ?_
  match r, h with
  | .error _, z => exact False.elim z
  | .ok .next, z => exact False.elim z
  | .ok .brk, z => exact False.elim z
  | .ok .cont, z => exact False.elim z
  | .ok (.ret u), ⟨v, H', os, bare, un, hok', rv, q⟩ =>
    obtain rfl : v = .bl true := q
    obtain rfl : u = Value.bool true := rv
    refine ⟨rfl, OldK.of_keep fun b o e => ?_, os, bare⟩
    cases q : H b with
    | none => exact un.keep b o e q (fun z => (List.not_mem_nil (show b ∈ ([] : List Addr) from z)).elim) (fun z => (List.not_mem_nil z).elim)
    | some u =>
      obtain ⟨_, _, ob, u', rfl⟩ := hH b u q
      have e1 := (hok b _ q).1
      have e2 := (hok' b _ (un.frzs b ob u' q)).1
      rw [e] at e1
      cases e1
      exact e2

theorem walkG {l : PySem.W.OpenLaw} {n k : Nat} {q : Program} {loose : List Str} {XP : (Str → Option Value) → Heap → Prop} {YP : World → Heap → Prop} {d : DefRec} {K : Params → PySem.W.Frag} {sp : World → Sp} {x : Str}
    (hn : l.most = some n) (hn2 : n ≤ sizeLine) (hdf : d.params.defaults = []) (hr : Room k callerA)
    (hY : ∀ (w : World) (h : Heap), YP w h → (K w.params).In h)
    (F : ∀ (w : World) (mg : Str → Option Value) (fa : Addr) (h : Heap), (K w.params).In h → h.Ns mainGlobals mg → mg d.name = some (.ref fa) →
      ∃ fd : FuncData, (∀ (s : Shared) (u : Value), BindsTo s fd ⟨[u], []⟩ [(x, u)]) ∧
        ∀ base : Heap, (K w.params).In base → base.Ns mainGlobals mg → FnG l.prog w (K w.params) mg base k fa fd [x] (sp w))
    (hsp : ∀ (w : World) (H : Hp) (a : Addr) (ns : List Int), ns.length ≤ n → SqL (K w.params) H a (ns.map V.int) → (∀ b u, H b = some u → b = a ∧ ∃ o v, u = .frz o v) → sp w [.ref a] H (fun v _ => v = .bl true) fun _ _ _ => False) :
    PySem.W.WalkO q loose XP YP l.row.toRowW d [] (fun f vs => PySem.call f vs) := by
  refine Att.attach_call hn hdf fun w s₀ s₁ mg mb fa o pm cd doc a vs ns G Y ho hd hcd hmg hobj hints hlen hg => ?_
  have KX := hY w _ Y
  obtain ⟨fd, hb, hF⟩ := F w mg fa _ KX G.T.g hmg
  have hl : ns.length ≤ sizeLine := Nat.le_trans hlen hn2
  have rv := vals_ints hints
  cases hk : (K w.params).lookup a with
  | some o =>
    have e := KX a o hk
    rw [hobj] at e
    cases e
    refine endG (H := fun _ => none) KX G.T.g G.T.b G.T.builtins G.T.nolimit hg hobj hr hF hb (hsp w _ a ns hlen ?_ fun b u z => nomatch z) (fun b u z => nomatch z) fun b u z => nomatch z
    exact .inr ⟨_, vs.toArray, _, hk, rfl, rfl, rfl, by rw [List.size_toArray, hints.length]; exact hl, by simpa using rv⟩
  | none =>
    have one : ∀ b u, (fun b => if b = a then some (HO.frz { cls := .type "list", data := .seq vs.toArray } (.lst (ns.map V.int))) else none) b = some u → b = a ∧ u = HO.frz { cls := .type "list", data := .seq vs.toArray } (.lst (ns.map V.int)) := fun b u z => by
      by_cases hb : b = a
      · exact ⟨hb, (Option.some.inj ((if_pos hb).symm.trans z)).symm⟩
      · exact nomatch ((if_neg hb).symm.trans z)
    refine endG (H := fun b => if b = a then some (.frz { cls := .type "list", data := .seq vs.toArray } (.lst (ns.map V.int))) else none) KX G.T.g G.T.b G.T.builtins G.T.nolimit hg hobj hr hF hb
      (hsp w _ a ns hlen (.inl (.inr ⟨_, if_pos rfl⟩)) fun b u z => ⟨(one b u z).1, _, _, (one b u z).2⟩) (fun b u z => ?_) fun b u z => ⟨(one b u z).1, hk, _, _, (one b u z).2⟩
    obtain ⟨rfl, rfl⟩ := one b u z
    exact ⟨hobj, by rw [List.length_map]; exact hl, vs, _, rv, hobj⟩

/-! ## repr of lists and tuples, one within another -/
mutual
/-- ints below 10 ^ k in size, no dict -/
def small (k : Nat) : PyData → Bool
  | .none | .bool _ | .str _ => true
  | .int i => decide (i.natAbs < 10 ^ k)
  | .list xs | .tuple xs => smallAll k xs
  | .dict _ => false
def smallAll (k : Nat) : List PyData → Bool
  | [] => true
  | x :: xs => small k x && smallAll k xs
end
mutual
/-- how many signs its text may have -/
def cost (k : Nat) : PyData → Nat
  | .none => 4
  | .bool _ => 5
  | .int _ => k + 1
  | .str s => (reprText s).length
  | .list xs | .tuple xs => costAll k xs + 4
  | .dict _ => 0
def costAll (k : Nat) : List PyData → Nat
  | [] => 0
  | x :: xs => cost k x + 2 + costAll k xs
end
theorem smallAll_iff {k : Nat} : ∀ {xs : List PyData}, smallAll k xs = true ↔ ∀ x ∈ xs, small k x = true
  | [] => by simp [smallAll]
  | x :: xs => by simp [smallAll, smallAll_iff (xs := xs)]
theorem costAll_le {k m : Nat} : ∀ {xs : List PyData}, (∀ x ∈ xs, cost k x ≤ m) → costAll k xs ≤ (m + 2) * xs.length
  | [], _ => Nat.zero_le _
  | x :: xs, h => by
    have h1 := h x List.mem_cons_self
    have h2 := costAll_le (m := m) fun y hy => h y (List.mem_cons_of_mem _ hy)
    show cost k x + 2 + costAll k xs ≤ (m + 2) * (xs.length + 1)
    rw [Nat.mul_add]
    omega
theorem textFrom_le : ∀ (ts : List Str) (k : Nat) (acc : Str), (textFrom k acc ts).length ≤ acc.length + piled ts
  | [], _, _ => by simp [textFrom, piled]
  | t :: r, k, acc => by
    have h := textFrom_le r (k + 1) (acc ++ (if k > 0 then ", " else "" : String) ++ t)
    have e : ((if k > 0 then ", " else "" : String) : Str).length ≤ 2 := by split <;> decide +kernel
    rw [strLen_append, strLen_append] at h
    rw [piled_cons]
    show (textFrom (k + 1) _ r).length ≤ _
    omega
theorem listText_le (ts : List Str) : (listText ts).length ≤ piled ts + 2 := by
  have h := textFrom_le ts 0 "["
  have e1 : (("[" : String) : Str).length = 1 := rfl
  have e2 : (("]" : String) : Str).length = 1 := rfl
  unfold listText
  rw [strLen_append, e2]
  omega
theorem tupleText_le (ts : List Str) : (tupleText ts).length ≤ piled ts + 4 := by
  have e3 : (((if ts.length == 1 then ",)" else ")" : String) : Str)).length ≤ 2 := by split <;> decide +kernel
  have e1 : ((("(" : String) : Str)).length = 1 := rfl
  unfold tupleText
  rw [strLen_append, strLen_append, e1]
  by_cases h : ts = []
  · subst h
    have e : (Str.join ", " []).length = 0 := rfl
    omega
  · have := join_length_add ts h
    omega
theorem int_le {i : Int} {k : Nat} (hk : 0 < k) (h : i.natAbs < 10 ^ k) : (Str.ofString (toString i)).length ≤ k + 1 := by
  rw [PySem.ofString_length]
  exact int_text_length_le10 hk h
mutual
theorem shown_le {k : Nat} (hk : 0 < k) : ∀ d : PyData, small k d = true → d.shown.length ≤ cost k d
  | .none, _ => (show (PyData.shown .none).length ≤ 4 by decide +kernel)
  | .bool b, _ => (show (PyData.shown (.bool b)).length ≤ 5 by cases b <;> decide +kernel)
  | .int i, h => by
    have h' : i.natAbs < 10 ^ k := by simpa [small] using h
    exact int_le hk h'
  | .str s, _ => Nat.le_refl _
  | .list xs, h => by
    have h1 := listText_le (PyData.shownAll xs)
    have h2 := shownAll_le hk xs (by simpa [small] using h)
    show (listText (PyData.shownAll xs)).length ≤ costAll k xs + 4
    omega
  | .tuple xs, h => by
    have h1 := tupleText_le (PyData.shownAll xs)
    have h2 := shownAll_le hk xs (by simpa [small] using h)
    show (tupleText (PyData.shownAll xs)).length ≤ costAll k xs + 4
    omega
  | .dict _, h => by simp [small] at h
theorem shownAll_le {k : Nat} (hk : 0 < k) : ∀ xs : List PyData, smallAll k xs = true → piled (PyData.shownAll xs) ≤ costAll k xs
  | [], _ => by simp [PyData.shownAll, piled]
  | x :: xs, h => by
    have h' : small k x = true ∧ smallAll k xs = true := by simpa [smallAll] using h
    have h1 := shown_le hk x h'.1
    have h2 := shownAll_le hk xs h'.2
    show piled (PyData.shown x :: PyData.shownAll xs) ≤ cost k x + 2 + costAll k xs
    rw [piled_cons]
    omega
end
theorem log_small {i : Int} {k : Nat} (hk : k ≤ 500) (h : i.natAbs < 10 ^ k) : i.natAbs.log2 < 1920 := by
  by_cases h0 : i.natAbs = 0
  · rw [h0]
    decide
  · rw [Nat.log2_lt h0]
    have h1 : 10 ^ k ≤ 10 ^ 500 := Nat.pow_le_pow_right (by decide) hk
    have h2 : (10 : Nat) ^ 500 < 2 ^ 1920 := by decide +kernel
    exact Nat.lt_of_lt_of_le h (Nat.le_trans h1 (Nat.le_of_lt h2))
mutual
theorem small_shows {k : Nat} (hk : k ≤ 500) : ∀ d : PyData, small k d = true → d.showable = true ∧ d.hasDict = false
  | .none, _ => by simp [PyData.showable, PyData.hasDict]
  | .bool b, _ => by simp [PyData.showable, PyData.hasDict]
  | .int i, h => by
    have h' : i.natAbs < 10 ^ k := by simpa [small] using h
    simp [PyData.showable, PyData.hasDict, log_small hk h']
  | .str s, _ => by simp [PyData.showable, PyData.hasDict]
  | .list xs, h => by simpa [PyData.showable, PyData.hasDict] using small_showsAll hk xs (by simpa [small] using h)
  | .tuple xs, h => by simpa [PyData.showable, PyData.hasDict] using small_showsAll hk xs (by simpa [small] using h)
  | .dict _, h => by simp [small] at h
theorem small_showsAll {k : Nat} (hk : k ≤ 500) : ∀ xs : List PyData, smallAll k xs = true → PyData.showableAll xs = true ∧ PyData.hasDictAll xs = false
  | [], _ => by simp [PyData.showableAll, PyData.hasDictAll]
  | x :: xs, h => by
    have h' : small k x = true ∧ smallAll k xs = true := by simpa [smallAll] using h
    have h1 := small_shows hk x h'.1
    have h2 := small_showsAll hk xs h'.2
    simp [PyData.showableAll, PyData.hasDictAll, h1, h2]
end
/-- repr of what is read as d: a list or a tuple -/
def rReprD (K : PySem.W.Frag) : List V → Hp → VK → Prop := fun xs H Q => ∃ (a : Addr) (d : PyData) (k : Nat), xs = [.ref a] ∧ Dp K H (.ref a) d ∧ d.depth ≤ 60 ∧ (0 < k ∧ k ≤ 500) ∧ small k d = true ∧ cost k d ≤ sizeLine ∧ Q (.str d.shown) H
theorem call_reprD {X : Cx} (hg : X.A.guards = some []) (hu : X.A.units + 64 < cLine) : CallR X (.builtin "repr") (rReprD X.K) := by
  intro pins s σ H vs us Q I r h
  obtain ⟨a, d, k, rfl, hd, hz, ⟨k0, k1⟩, hs, hc, q⟩ := h
  cases r with
  | cons r1 r2 =>
    cases r2
    cases r1
    obtain ⟨as, rd⟩ := Dp.reads I d _ _ hd rfl
    obtain ⟨s1, s2⟩ := small_shows k1 d hs
    exact repr_of_reads' rd s1 (PyData.noDict_hsm s2) hg (by omega) (fun _ _ e => e) (fun h' u tk kp => ⟨.str d.shown, H, I.kept kp, ⟨u, rfl⟩, q⟩) (Nat.le_trans (shown_le k0 d hs) hc)

/-! ## heaps: what is not in S stays; tuples and locked things stay always -/
structure Ch (S : List Addr) (H H' : Hp) : Prop where
  keep : ∀ b o, b ∉ S → H b = some o → H' b = some o
  tup : ∀ b xs, H b = some (.tup xs) → H' b = some (.tup xs)
  frz : ∀ b o u, H b = some (.frz o u) → H' b = some (.frz o u)
/-- a list that is read and never written: the script -/
def Fz (K : PySem.W.Frag) (H : Hp) (a : Addr) (xs : List V) : Prop := (∃ o, H a = some (.frz o (.lst xs))) ∨ ∀ H', SqL K H' a xs
section
variable {K : PySem.W.Frag} {S S' : List Addr} {H H' H1 H2 : Hp} {p q a l : Addr} {o u : HO} {xs ys : List V}
theorem Ch.refl : Ch S H H := ⟨fun _ _ _ h => h, fun _ _ h => h, fun _ _ _ h => h⟩
theorem Ch.trans (c : Ch S H H1) (d : Ch S H1 H2) : Ch S H H2 := ⟨fun b o n h => d.keep b o n (c.keep b o n h), fun b xs h => d.tup b xs (c.tup b xs h), fun b o u h => d.frz b o u (c.frz b o u h)⟩
theorem Ch.mono (c : Ch S H H') (h : ∀ b ∈ S, b ∈ S') : Ch S' H H' := ⟨fun b o n e => c.keep b o (fun z => n (h b z)) e, c.tup, c.frz⟩
theorem Ch.wide (c : Ch [] H H') : Ch S H H' := c.mono fun _ z => absurd z List.not_mem_nil
theorem Ch.lst (c : Ch [] H H') (h : H l = some o) : H' l = some o := c.keep l o List.not_mem_nil h
theorem Ch.but (c : Ch [p] H H') (h : H l = some o) (n : l ≠ p) : H' l = some o := c.keep l o (by simpa using n) h
theorem Ch.fz (c : Ch S H H') (h : Fz K H a xs) : Fz K H' a xs := by
  rcases h with ⟨o, h⟩ | h
  · exact .inl ⟨o, c.frz _ _ _ h⟩
  · exact .inr h
theorem Fz.sql (h : Fz K H a xs) : SqL K H a xs := by
  rcases h with ⟨o, h⟩ | h
  · exact .inl (.inr ⟨o, h⟩)
  · exact h H
theorem Ch.sqt (c : Ch S H H') (h : SqT K H a xs) : SqT K H' a xs := by
  rcases h with (h | ⟨o, h⟩) | h
  · exact .inl (.inl (c.tup _ _ h))
  · exact .inl (.inr ⟨o, c.frz _ _ _ h⟩)
  · exact .inr h
theorem Ch.sql (c : Ch [] H H') (h : SqL K H a xs) : SqL K H' a xs := by
  rcases h with (h | ⟨o, h⟩) | h
  · exact .inl (.inl (c.lst h))
  · exact .inl (.inr ⟨o, c.frz _ _ _ h⟩)
  · exact .inr h
theorem Ch.free (c : Ch [] H H') (h : H' l = none) : H l = none := by
  cases q : H l with
  | none => rfl
  | some o =>
    rw [c.lst q] at h
    cases h
theorem Ch.new (h : H p = none) : Ch S H (upd H p o) := by
  have k : ∀ b u, H b = some u → upd H p o b = some u := fun b u e => by
    rw [upd_ne (ne_of_none e h)]
    exact e
  exact ⟨fun b u _ e => k b u e, fun b xs e => k _ _ e, fun b o u e => k _ _ e⟩
/-- a list is changed -/
theorem Ch.put (h : H p = some (.lst xs)) : Ch [p] H (upd H p o) := by
  refine ⟨fun b u n e => ?_, fun b xs e => ?_, fun b o u e => ?_⟩
  · rw [upd_ne (by simpa using n)]
    exact e
  · rw [upd_ne (ne_of e h (by intro z; cases z))]
    exact e
  · rw [upd_ne (ne_of e h (by intro z; cases z))]
    exact e
/-- what is new beside H may change -/
theorem Ch.old (c : Ch S H H1) (h : H p = none) (d : Ch [p] H1 H2) : Ch S H H2 :=
  ⟨fun b u n e => d.but (c.keep b u n e) (ne_of_none e h), fun b xs e => d.tup b xs (c.tup b xs e), fun b o u e => d.frz b o u (c.frz b o u e)⟩
theorem Ch.old2 (c : Ch S H H1) (h : H p = none) (h' : H q = none) (d : Ch [p, q] H1 H2) : Ch S H H2 :=
  ⟨fun b u n e => d.keep b u (by simp only [List.mem_cons, List.not_mem_nil, or_false, not_or]; exact ⟨ne_of_none e h, ne_of_none e h'⟩) (c.keep b u n e), fun b xs e => d.tup b xs (c.tup b xs e), fun b o u e => d.frz b o u (c.frz b o u e)⟩
theorem ne_new (h : H l = some o) (h' : H p = none) : l ≠ p := ne_of_none h h'
end

/-! ## readings, from the left -/
section
variable {K : PySem.W.Frag} {σ : L2.St} {H : Hp} {Q : VK} {QB : Bool → Hp → Prop} {ta tb tc te : TE} {tt tu : TT} {x y v : V} {D : Ends} {s1 s2 : TS} {i j : Int} {n : Nat} {p a : Addr} {xs ys : List V}
theorem w_start {N : List Str} {vs : List V} {σ : L2.St} {t : TS} {D : Ends} {H : Hp} (e : start N vs = σ) (h : t D σ H) : t D (start N vs) H := e ▸ h
theorem w_var (h : σ[n]? = some (some v)) (q : Q v H) : tVar n σ H Q := ⟨v, h, q⟩
theorem w_var0 (q : Q v H) : tVar 0 (some v :: σ) H Q := ⟨v, rfl, q⟩
theorem w_varS {o : Option V} (h : tVar n σ H Q) : tVar (n + 1) (o :: σ) H Q := h
theorem w_c (q : Q v H) : tC v σ H Q := q
theorem w_op {r : R2} (h : ta σ H fun x H1 => tb σ H1 fun y H2 => r x y H2 Q) : tOp r ta tb σ H Q := h
theorem w_un {r : V → Hp → VK → Prop} (h : ta σ H fun x H1 => r x H1 Q) : tUn r ta σ H Q := h
theorem w_I0 {g : Int → Int → V} (q : Q (g i j) H) : rI0 g (.int i) (.int j) H Q := ⟨i, j, rfl, rfl, q⟩
theorem w_I {C : Int → Int → Prop} {g : Int → Int → V} (c : C i j) (q : Q (g i j) H) : rI C g (.int i) (.int j) H Q := ⟨i, j, rfl, rfl, c, q⟩
theorem w_U {g : Int → V} (q : Q (g i) H) : rU g (.int i) H Q := ⟨i, rfl, q⟩
theorem w_eqI (q : Q (.bl (decide (i = j))) H) : rEq (.int i) (.int j) H Q := ⟨rfl, by rw [show decide (V.int i = V.int j) = decide (i = j) by simp]; exact q⟩
theorem w_neI (q : Q (.bl (!decide (i = j))) H) : rNe (.int i) (.int j) H Q := ⟨rfl, by rw [show decide (V.int i = V.int j) = decide (i = j) by simp]; exact q⟩
theorem w_eqS {i j : Str} (q : Q (.bl (decide (i = j))) H) : rEq (.str i) (.str j) H Q := ⟨rfl, by rw [show decide (V.str i = V.str j) = decide (i = j) by simp]; exact q⟩
theorem w_neS {i j : Str} (q : Q (.bl (!decide (i = j))) H) : rNe (.str i) (.str j) H Q := ⟨rfl, by rw [show decide (V.str i = V.str j) = decide (i = j) by simp]; exact q⟩
theorem w_ixL (h : SqL K H p xs) (ha : atI xs i = some v) (q : Q v H) : rIxL K (.ref p) (.int i) H Q := ⟨p, xs, i, v, rfl, rfl, h, ha, q⟩
theorem w_ixT (h : SqT K H p xs) (ha : atI xs i = some v) (q : Q v H) : rIxT K (.ref p) (.int i) H Q := ⟨p, xs, i, v, rfl, rfl, h, ha, q⟩
theorem atI_int {ns : List Int} {i : Int} (h0 : 0 ≤ i) (h1 : i < ns.length) : atI (ns.map V.int) i = some (.int (ns.getD i.toNat 0)) := by
  have e : i = (i.toNat : Int) := by omega
  have hl : i.toNat < ns.length := by omega
  rw [e]
  refine atI_nat ?_
  rw [List.getElem?_map, Int.toNat_natCast, List.getElem?_eq_getElem hl, List.getD_eq_getElem?_getD, List.getElem?_eq_getElem hl]
  rfl
theorem w_ixLI {ns : List Int} (h : SqL K H p (ns.map V.int)) (h0 : 0 ≤ i) (h1 : i < ns.length) (q : Q (.int (ns.getD i.toNat 0)) H) : rIxL K (.ref p) (.int i) H Q := w_ixL h (atI_int h0 h1) q
theorem w_ixTI {ns : List Int} (h : SqT K H p (ns.map V.int)) (h0 : 0 ≤ i) (h1 : i < ns.length) (q : Q (.int (ns.getD i.toNat 0)) H) : rIxT K (.ref p) (.int i) H Q := w_ixT h (atI_int h0 h1) q
theorem w_test (h : te σ H fun x H' => ∃ k, x = .bl k ∧ QB k H') : tTest te σ H QB := h
theorem w_B (h : te σ H fun x H' => ∃ k, x = .bl k ∧ QB k H') : tB te σ H QB := h
theorem w_bl {b : Bool} {QB : Bool → Prop} (q : QB b) : ∃ k, V.bl b = .bl k ∧ QB k := ⟨b, rfl, q⟩
theorem w_and (h : tt σ H fun c H1 => if c = true then tu σ H1 QB else QB false H1) : tAnd tt tu σ H QB := h
theorem w_or (h : tt σ H fun c H1 => if c = true then QB true H1 else tu σ H1 QB) : tOr tt tu σ H QB := h
theorem w_not (h : tt σ H fun c H1 => QB (!c) H1) : tNot tt σ H QB := h
theorem w_notV (h : ta σ H fun x H1 => ∃ c, x = .bl c ∧ Q (.bl (!c)) H1) : tNotV ta σ H Q := h
theorem w_andV (h : ta σ H fun x H1 => ∃ c, x = .bl c ∧ if c = true then tb σ H1 Q else Q (.bl false) H1) : tAndV ta tb σ H Q := h
theorem w_orV (h : ta σ H fun x H1 => ∃ c, x = .bl c ∧ if c = true then Q (.bl true) H1 else tb σ H1 Q) : tOrV ta tb σ H Q := h
theorem w_ifE (h : tt σ H fun c H1 => if c = true then ta σ H1 Q else tb σ H1 Q) : tIf tt ta tb σ H Q := h
theorem w_ite {c : Prop} [Decidable c] {A B : Prop} (h1 : c → A) (h2 : ¬ c → B) : if decide c = true then A else B := by
  by_cases h : c
  · rw [if_pos (decide_eq_true h)]
    exact h1 h
  · rw [if_neg (by rw [decide_eq_false h]; decide)]
    exact h2 h
theorem w_itn {c : Prop} [Decidable c] {A B : Prop} (h1 : ¬ c → A) (h2 : c → B) : if (!decide c) = true then A else B := by
  by_cases h : c
  · rw [decide_eq_true h, if_neg (by decide)]
    exact h2 h
  · rw [decide_eq_false h, if_pos (by decide)]
    exact h1 h
theorem iteNT {A B : Prop} (h : B) : if (!true) = true then A else B := h
theorem iteNF {A B : Prop} (h : A) : if (!false) = true then A else B := h
theorem w_seq (h : s1 { D with nx := s2 D } σ H) : tSeq s1 s2 D σ H := h
/-- a word between a statement and the rest -/
theorem w_cut (M : L2.St → Hp → Prop) (h : s1 { D with nx := M } σ H) (k : ∀ σ' H', M σ' H' → s2 D σ' H') : tCut s1 s2 D σ H := ⟨M, h, k⟩
theorem w_next (h : D.nx σ H) : tNext D σ H := h
theorem w_if (h : tt σ H fun b H1 => if b = true then s1 D σ H1 else s2 D σ H1) : tIfS tt s1 s2 D σ H := h
theorem w_ret (h : te σ H D.rt) : tRet te D σ H := h
theorem w_drop (h : te σ H fun _ H1 => D.nx σ H1) : tDrop te D σ H := h
theorem w_asg {g : TG} (h : te σ H fun x H1 => g x σ H1 D.nx) : tAsg te g D σ H := h
theorem w_name {Qg : L2.St → Hp → Prop} (h : Qg (σ.set n (some v)) H) : gName n v σ H Qg := h
theorem w_unl {t : TGs} {Qg : L2.St → Hp → Prop} (h : SqL K H a xs) (hl : xs.length = n) (q : t xs σ H Qg) : gUnl K n t (.ref a) σ H Qg := ⟨a, xs, rfl, h, hl, q⟩
theorem w_gtup {t : TGs} {Qg : L2.St → Hp → Prop} (h : SqT K H a xs) (hl : xs.length = n) (q : t xs σ H Qg) : gTup K n t (.ref a) σ H Qg := ⟨a, xs, rfl, h, hl, q⟩
theorem w_gcons {t : TG} {u : TGs} {Qg : L2.St → Hp → Prop} (q : t v σ H fun σ' H' => u xs σ' H' Qg) : gCons t u (v :: xs) σ H Qg := ⟨v, xs, rfl, q⟩
theorem w_gnil {Qg : L2.St → Hp → Prop} (q : Qg σ H) : gNil [] σ H Qg := ⟨rfl, q⟩
theorem w_sub {to ti : TE} {t : TSet} {Qg : L2.St → Hp → Prop} (h : to σ H fun o H1 => ti σ H1 fun i H2 => t o i v H2 fun H3 => Qg σ H3) : gSub to ti t v σ H Qg := h
theorem w_setL {Qh : Hp → Prop} {k : Nat} (h : H p = some (.lst xs)) (hk : ixN xs.length i = some k) (q : ∀ H', Ch [p] H H' → H' p = some (.lst (xs.set k v)) → Qh H') : rSetL (.ref p) (.int i) v H Qh := ⟨p, xs, i, k, rfl, rfl, h, hk, q _ (.put h) upd_same⟩
theorem w_nilA {QA : List V → Hp → Prop} (q : QA [] H) : tNil σ H QA := q
theorem w_consA {tr : TA} {QA : List V → Hp → Prop} (h : te σ H fun x H1 => tr σ H1 fun xs H2 => QA (x :: xs) H2) : tCons te tr σ H QA := h
/-- a new object o is laid -/
def New (H : Hp) (o : HO) (Q : VK) : Prop := ∀ p, H p = none → Q (.ref p) (upd H p o)
theorem w_lst {t : TA} (h : t σ H fun xs H1 => xs.length ≤ sizeLine ∧ New H1 (.lst xs) Q) : tLst t σ H Q := h
theorem w_tup {t : TA} (h : t σ H fun xs H1 => xs.length ≤ sizeLine ∧ New H1 (.tup xs) Q) : tTup t σ H Q := h
/-- a new object: from then on the heap is a letter -/
theorem w_new {o : HO} (h : ∀ p H', H p = none → Ch [] H H' → H' p = some o → Q (.ref p) H') : New H o Q := fun p hp => h p _ hp (.new hp) upd_same
theorem w_newA {o : HO} (hz : n ≤ sizeLine) (h : ∀ p H', H p = none → Ch [] H H' → H' p = some o → Q (.ref p) H') : n ≤ sizeLine ∧ New H o Q := ⟨hz, w_new h⟩
theorem w_cb {r : List V → Hp → VK → Prop} {t : TA} (h : t σ H fun vs H1 => r vs H1 Q) : tCB r t σ H Q := h
theorem w_call {sp : Sp} {t : TA} (h : t σ H fun vs H1 => sp (vs ++ []) H1 Q E0) : tCall sp [] E0 t σ H Q := h
theorem w_sl {r : V → Option Int → Option Int → Hp → VK → Prop} {tl th : TO} (h : te σ H fun x H1 => tl σ H1 fun l H2 => th σ H2 fun u H3 => r x l u H3 Q) : tSl r te tl th σ H Q := h
theorem w_part {QO : Option Int → Hp → Prop} (h : te σ H fun x H1 => ∃ i, x = .int i ∧ QO (some i) H1) : tPart te σ H QO := h
theorem w_noPart {QO : Option Int → Hp → Prop} (h : QO none H) : tNoPart σ H QO := h
theorem w_int {QI : Int → Prop} (q : QI i) : ∃ k, V.int i = .int k ∧ QI k := ⟨i, rfl, q⟩
theorem w_slL {lo hi : Option Int} (h : SqL K H a xs) (q : ∀ p H', H p = none → Ch [] H H' → H' p = some (.lst (cutV xs lo hi)) → Q (.ref p) H') : rSlL K (.ref a) lo hi H Q := ⟨a, xs, rfl, h, w_new q⟩
theorem w_bm {T : String} {r : V → List V → Hp → VK → Prop} {t : TA} (h : te σ H fun x H1 => tyV K T x H1 ∧ t σ H1 fun xs H2 => r x xs H2 Q) : tBM K T r te t σ H Q := h
theorem w_tyL {A : Prop} (h : H p = some (.lst xs)) (q : A) : tyV K "list" (.ref p) H ∧ A := ⟨.inl ⟨rfl, _, SqL.of h⟩, q⟩
theorem w_app (h : H p = some (.lst xs)) (hz : xs.length < sizeLine) (q : ∀ H', Ch [p] H H' → H' p = some (.lst (xs ++ [v])) → Q .non H') : rAppend (.ref p) [v] H Q := ⟨p, xs, v, rfl, rfl, h, hz, q _ (.put h) upd_same⟩
end

/-! ## operators by named readings -/
section
variable {X : Cx} {H : Hp} {Q : VK} {i j : Int}
def rAdd : R2 := rI0 fun i j => .int (i + j)
def rSub : R2 := rI0 fun i j => .int (i - j)
def rMul : R2 := rI CMul fun i j => .int (i * j)
def rDiv : R2 := rI CDiv fun i j => .int (i / j)
def rMod : R2 := rI (fun _ j => 0 < j) fun i j => .int (i % j)
def rPow : R2 := rI CPow fun i j => .int (i ^ j.toNat)
def rShl : R2 := rI CPow fun i j => .int (i * 2 ^ j.toNat)
def rShr : R2 := rI (fun _ j => 0 ≤ j) fun i j => .int (i / 2 ^ j.toNat)
def rAnd : R2 := rI0 fun i j => .int (Builtin.bitAnd i j)
def rOr : R2 := rI0 fun i j => .int (Builtin.bitOr i j)
def rXor : R2 := rI0 fun i j => .int (Builtin.bitXor i j)
def rLt : R2 := rI0 fun i j => .bl (decide (i < j))
def rLe : R2 := rI0 fun i j => .bl (decide (i ≤ j))
def rGt : R2 := rI0 fun i j => .bl (decide (j < i))
def rGe : R2 := rI0 fun i j => .bl (decide (j ≤ i))
def rAddS : R2 := fun x y H Q => ∃ i j, x = .str i ∧ y = .str j ∧ i.length + j.length ≤ sizeLine ∧ Q (.str (i ++ j)) H
theorem o_add : OpR X (binaryOp .Add) rAdd := op_add
theorem o_sub : OpR X (binaryOp .Sub) rSub := op_sub
theorem o_mul : OpR X (binaryOp .Mult) rMul := op_mul
theorem o_div : OpR X (binaryOp .FloorDiv) rDiv := op_fdiv
theorem o_mod : OpR X (binaryOp .Mod) rMod := op_mod
theorem o_pow : OpR X (binaryOp .Pow) rPow := op_pow
theorem o_shl : OpR X (binaryOp .LShift) rShl := op_shl
theorem o_shr : OpR X (binaryOp .RShift) rShr := op_shr
theorem o_and : OpR X (binaryOp .BitAnd) rAnd := op_and
theorem o_or : OpR X (binaryOp .BitOr) rOr := op_or
theorem o_xor : OpR X (binaryOp .BitXor) rXor := op_xor
theorem o_lt : OpR X (compareOp .Lt) rLt := op_lt
theorem o_le : OpR X (compareOp .LtE) rLe := op_le
theorem o_gt : OpR X (compareOp .Gt) rGt := op_gt
theorem o_ge : OpR X (compareOp .GtE) rGe := op_ge
theorem o_adds : OpR X (binaryOp .Add) rAddS := op_add_str
theorem w_add (q : Q (.int (i + j)) H) : rAdd (.int i) (.int j) H Q := ⟨i, j, rfl, rfl, q⟩
theorem w_subt (q : Q (.int (i - j)) H) : rSub (.int i) (.int j) H Q := ⟨i, j, rfl, rfl, q⟩
theorem w_mul (c : CMul i j) (q : Q (.int (i * j)) H) : rMul (.int i) (.int j) H Q := ⟨i, j, rfl, rfl, c, q⟩
theorem w_div (c : 0 < j ∧ j < 1073741824) (q : Q (.int (i / j)) H) : rDiv (.int i) (.int j) H Q := ⟨i, j, rfl, rfl, c, q⟩
theorem w_mod (c : 0 < j) (q : Q (.int (i % j)) H) : rMod (.int i) (.int j) H Q := ⟨i, j, rfl, rfl, c, q⟩
theorem w_pow (c : CPow i j) (q : Q (.int (i ^ j.toNat)) H) : rPow (.int i) (.int j) H Q := ⟨i, j, rfl, rfl, c, q⟩
theorem w_shl (c : CPow i j) (q : Q (.int (i * 2 ^ j.toNat)) H) : rShl (.int i) (.int j) H Q := ⟨i, j, rfl, rfl, c, q⟩
theorem w_shr (c : 0 ≤ j) (q : Q (.int (i / 2 ^ j.toNat)) H) : rShr (.int i) (.int j) H Q := ⟨i, j, rfl, rfl, c, q⟩
theorem w_band (q : Q (.int (Builtin.bitAnd i j)) H) : rAnd (.int i) (.int j) H Q := ⟨i, j, rfl, rfl, q⟩
theorem w_bor (q : Q (.int (Builtin.bitOr i j)) H) : rOr (.int i) (.int j) H Q := ⟨i, j, rfl, rfl, q⟩
theorem w_bxor (q : Q (.int (Builtin.bitXor i j)) H) : rXor (.int i) (.int j) H Q := ⟨i, j, rfl, rfl, q⟩
theorem w_lt (q : Q (.bl (decide (i < j))) H) : rLt (.int i) (.int j) H Q := ⟨i, j, rfl, rfl, q⟩
theorem w_le (q : Q (.bl (decide (i ≤ j))) H) : rLe (.int i) (.int j) H Q := ⟨i, j, rfl, rfl, q⟩
theorem w_gt (q : Q (.bl (decide (j < i))) H) : rGt (.int i) (.int j) H Q := ⟨i, j, rfl, rfl, q⟩
theorem w_ge (q : Q (.bl (decide (j ≤ i))) H) : rGe (.int i) (.int j) H Q := ⟨i, j, rfl, rfl, q⟩
end

/-! ## built-ins by named readings -/
section
variable {X : Cx}
def rLenL (K : PySem.W.Frag) : List V → Hp → VK → Prop := fun xs H Q => ∃ p ys, xs = [.ref p] ∧ (SqL K H p ys ∨ SqT K H p ys) ∧ Q (.int ys.length) H
theorem cr_len : CallR X (.builtin "len") (rLenL X.K) := call_len_seq
def rAbs : List V → Hp → VK → Prop := fun xs H Q => ∃ i, xs = [.int i] ∧ Q (.int (if i < 0 then -i else i)) H
theorem cr_abs : CallR X (.builtin "abs") rAbs := call_abs
variable {K : PySem.W.Frag} {H : Hp} {Q : VK} {p : Addr} {xs : List V} {i : Int}
theorem w_lenL (h : SqL K H p xs) (q : Q (.int xs.length) H) : rLenL K [.ref p] H Q := ⟨p, xs, rfl, .inl h, q⟩
theorem w_lenT (h : SqT K H p xs) (q : Q (.int xs.length) H) : rLenL K [.ref p] H Q := ⟨p, xs, rfl, .inr h, q⟩
theorem w_abs (q : Q (.int (i.natAbs : Int)) H) : rAbs [.int i] H Q := ⟨i, rfl, by
  rw [show (if i < 0 then -i else i) = (i.natAbs : Int) by split <;> omega]
  exact q⟩
end

section
variable {X : Cx}
def rLenStr : List V → Hp → VK → Prop := fun xs H Q => ∃ z, xs = [.str z] ∧ z.length ≤ sizeLine ∧ Q (.int z.length) H
theorem cr_lenS : CallR X (.builtin "len") rLenStr := call_len_str
def rStr : List V → Hp → VK → Prop := fun xs H Q => ∃ i, xs = [.int i] ∧ i.natAbs.log2 < 1920 ∧ Q (.str (toString i)) H
theorem cr_str : CallR X (.type "str") rStr := call_str_int
def rIntB : List V → Hp → VK → Prop := fun xs H Q => (∃ i, xs = [.int i] ∧ Q (.int i) H) ∨ ∃ k, xs = [.bl k] ∧ Q (.int (if k then 1 else 0)) H
theorem cr_intB : CallR X (.type "int") rIntB := call_int1
def rListOf (K : PySem.W.Frag) : List V → Hp → VK → Prop := fun xs H Q => ∃ p ys, xs = [.ref p] ∧ (SqL K H p ys ∨ SqT K H p ys) ∧ ∀ l, H l = none → Q (.ref l) (upd H l (.lst ys))
theorem cr_list : CallR X (.type "list") (rListOf X.K) := call_list_of
def rTupOf (K : PySem.W.Frag) : List V → Hp → VK → Prop := fun xs H Q => ∃ p ys, xs = [.ref p] ∧ ((SqL K H p ys ∧ ∀ l, H l = none → Q (.ref l) (upd H l (.tup ys))) ∨ (SqT K H p ys ∧ Q (.ref p) H))
theorem cr_tuple : CallR X (.type "tuple") (rTupOf X.K) := call_tuple_of
variable {K : PySem.W.Frag} {H : Hp} {Q : VK} {p : Addr} {xs ys : List V} {i : Int} {σ : L2.St} {te : TE} {n : Nat}
theorem w_lenS {z : Str} (hz : z.length ≤ sizeLine) (q : Q (.int z.length) H) : rLenStr [.str z] H Q := ⟨z, rfl, hz, q⟩
theorem w_str (hz : i.natAbs.log2 < 1920) (q : Q (.str (toString i)) H) : rStr [.int i] H Q := ⟨i, rfl, hz, q⟩
theorem w_intB {b : Bool} (q : Q (.int (if b then 1 else 0)) H) : rIntB [.bl b] H Q := .inr ⟨b, rfl, q⟩
theorem w_listL (h : SqL K H p xs) (q : ∀ l H', H l = none → Ch [] H H' → H' l = some (.lst xs) → Q (.ref l) H') : rListOf K [.ref p] H Q := ⟨p, xs, rfl, .inl h, w_new q⟩
theorem w_listT (h : SqT K H p xs) (q : ∀ l H', H l = none → Ch [] H H' → H' l = some (.lst xs) → Q (.ref l) H') : rListOf K [.ref p] H Q := ⟨p, xs, rfl, .inr h, w_new q⟩
theorem w_tupL (h : SqL K H p xs) (q : ∀ l H', H l = none → Ch [] H H' → H' l = some (.tup xs) → Q (.ref l) H') : rTupOf K [.ref p] H Q := ⟨p, xs, rfl, .inl ⟨h, w_new q⟩⟩
theorem w_sum {ns : List Int} (h : SqL K H p (ns.map V.int)) (q : Q (.int ns.sum) H) : rSum K [.ref p] H Q := ⟨p, ns, rfl, h, q⟩
theorem w_all {bs : List Bool} (h : SqL K H p (bs.map V.bl)) (q : Q (.bl (bs.all id)) H) : rAll K [.ref p] H Q := ⟨p, bs, rfl, h, q⟩
theorem w_any {bs : List Bool} (h : SqL K H p (bs.map V.bl)) (q : Q (.bl (bs.any id)) H) : rAny K [.ref p] H Q := ⟨p, bs, rfl, h, q⟩
theorem w_cat {l b : Addr} (h : H l = some (.lst xs)) (h' : H b = some (.lst ys)) (hz : xs.length + ys.length ≤ sizeLine) (q : ∀ p H', H p = none → Ch [] H H' → H' p = some (.lst (xs ++ ys)) → Q (.ref p) H') : rCat (.ref l) (.ref b) H Q := ⟨l, b, xs, ys, rfl, rfl, h, h', hz, w_new q⟩
/-! ## loops -/
variable {ta : TA} {tu : TS} {tt : TT} {D : Ends} {j : Nat} {g : TG} {vs : List Nat} {R : It → Hp → Prop} {a : Addr}
/-- a range of a number, walked -/
def RngGo (xs : List V) (H : Hp) (R : It → Hp → Prop) : Prop := ∃ j : Int, xs = [.int j] ∧ -(2 ^ 62) ≤ j ∧ j < 2 ^ 62 ∧ R (Itr 0 j.toNat) H
def Rng2Go (xs : List V) (H : Hp) (R : It → Hp → Prop) : Prop := ∃ i j : Int, xs = [.int i, .int j] ∧ (-(2 ^ 62) ≤ i ∧ i < 2 ^ 62 ∧ -(2 ^ 62) ≤ j ∧ j < 2 ^ 62) ∧ R (Itr i (j - i).toNat) H
/-- a list, a tuple, walked -/
def LstGo (K : PySem.W.Frag) (x : V) (H : Hp) (R : It → Hp → Prop) : Prop := ∃ a, x = .ref a ∧ (∃ xs, SqL K H a xs) ∧ R (Itl K a) H
def TupGo (K : PySem.W.Frag) (x : V) (H : Hp) (R : It → Hp → Prop) : Prop := ∃ a, x = .ref a ∧ (∃ xs, SqT K H a xs) ∧ R (Itt K a) H
def ForGo (J : It) (g : TG) (tu : TS) (D : Ends) (σ : L2.St) (H : Hp) : Prop := ∃ W : Nat → Nat → L2.St → Hp → Prop, (∃ m, W 0 m σ H) ∧ ∀ i m σ H, W i m σ H →
    (J.stop i H ∧ D.nx σ H) ∨ (J.go i H ∧ ∃ N : L2.St → Hp → Prop, (∀ σ' H', N σ' H' → ∃ m', m' < m ∧ W (i + 1) m' σ' H') ∧ ∀ x H', J.yld i H x H' → g x σ H' fun σ2 H2 => tu { D with nx := N, ct := N, bk := D.nx } σ2 H2)
def LcGo (J : It) (g : TG) (tt : TT) (te : TE) (vs : List Nat) (σ : L2.St) (H : Hp) (Q : VK) : Prop := ∀ L, H L = none → ∃ W : Nat → Nat → Hp → Prop, (∃ m, W 0 m (upd H L (.lst []))) ∧ ∀ i m H, W i m H →
    (J.stop i H ∧ Q (.ref L) H) ∨ (J.go i H ∧ ∃ Nx : Hp → Prop, (∀ H', Nx H' → ∃ m', m' < m ∧ W (i + 1) m' H') ∧ ∀ x H', J.yld i H x H' → g x (wipe σ vs) H' fun σ2 H2 => wipe σ2 vs = wipe σ vs ∧ tt σ2 H2 fun b H3 =>
      if b = true then te σ2 H3 fun y H4 => ∃ acc, H4 L = some (.lst acc) ∧ acc.length < sizeLine ∧ Nx (upd H4 L (.lst (acc ++ [y]))) else Nx H3)
theorem w_rng1 (h : ta σ H fun vs H1 => RngGo vs H1 R) : iRng1 ta σ H R := h
theorem w_rng2 (h : ta σ H fun vs H1 => Rng2Go vs H1 R) : iRng2 ta σ H R := h
theorem w_iL (h : te σ H fun x H1 => LstGo K x H1 R) : iList K te σ H R := h
theorem w_iT (h : te σ H fun x H1 => TupGo K x H1 R) : iTup K te σ H R := h
theorem w_rngN {n : Nat} (e : i = (n : Int)) (hn : n ≤ 1000000000) (h : R (Itr 0 n) H) : RngGo [.int i] H R := by
  subst e
  exact ⟨_, rfl, by omega, by omega, h⟩
theorem w_rng2N {lo : Int} {n : Nat} (e : i = lo + (n : Int)) (h0 : -1000000000 ≤ lo) (h1 : lo ≤ 1000000000) (hn : n ≤ 1000000000) (h : R (Itr lo n) H) : Rng2Go [.int lo, .int i] H R := by
  subst e
  refine ⟨_, _, rfl, by omega, ?_⟩
  rw [show (lo + (n : Int) - lo).toNat = n by omega]
  exact h
theorem w_goL (h : SqL K H a xs) (q : R (Itl K a) H) : LstGo K (.ref a) H R := ⟨a, rfl, ⟨xs, h⟩, q⟩
theorem w_goT (h : SqT K H a xs) (q : R (Itt K a) H) : TupGo K (.ref a) H R := ⟨a, rfl, ⟨xs, h⟩, q⟩
theorem w_for {wi : TI} (h : wi σ H fun J H1 => ForGo J g tu D σ H1) : tFor wi g tu D σ H := h
theorem w_lc {wi : TI} (h : wi σ H fun J H1 => LcGo J g tt te vs σ H1 Q) : tLc wi g tt te vs σ H Q := h
/-- for name in range(n), by what holds ahead of turn i -/
theorem w_forR {n : Nat} (Pv : Nat → L2.St → Hp → Prop) (h0 : Pv 0 σ H) (hs : ∀ (i : Nat) σ' H', i < n → Pv i σ' H' → tu { D with nx := Pv (i + 1), ct := Pv (i + 1), bk := D.nx } (σ'.set j (some (.int (i : Int)))) H') (hd : ∀ σ' H', Pv n σ' H' → D.nx σ' H') :
    ForGo (Itr 0 n) (gName j) tu D σ H :=
  for_range (lo := 0) (n := n) Pv h0 (fun i σ' H' hi p => by
    show tu { D with nx := Pv (i + 1), ct := Pv (i + 1), bk := D.nx } (σ'.set j (some (.int ((0 : Int) + (i : Int))))) H'
    rw [Int.zero_add]
    exact hs i σ' H' hi p) hd
theorem w_forR2 {n : Nat} {lo : Int} (Pv : Nat → L2.St → Hp → Prop) (h0 : Pv 0 σ H) (hs : ∀ (i : Nat) σ' H', i < n → Pv i σ' H' → tu { D with nx := Pv (i + 1), ct := Pv (i + 1), bk := D.nx } (σ'.set j (some (.int (lo + (i : Int))))) H') (hd : ∀ σ' H', Pv n σ' H' → D.nx σ' H') :
    ForGo (Itr lo n) (gName j) tu D σ H := for_range (lo := lo) (n := n) Pv h0 hs hd
/-- over a tuple, a list -/
theorem w_forT (Pv : Nat → L2.St → Hp → Prop) (h0 : Pv 0 σ H) (hl : ∀ i σ' H', i ≤ xs.length → Pv i σ' H' → SqT K H' a xs)
    (hs : ∀ i x σ' H', xs[i]? = some x → Pv i σ' H' → g x σ' H' fun σ2 H2 => tu { D with nx := Pv (i + 1), ct := Pv (i + 1), bk := D.nx } σ2 H2) (hd : ∀ σ' H', Pv xs.length σ' H' → D.nx σ' H') : ForGo (Itt K a) g tu D σ H := for_tup Pv h0 hl hs hd
theorem w_forL (Pv : Nat → L2.St → Hp → Prop) (h0 : Pv 0 σ H) (hl : ∀ i σ' H', i ≤ xs.length → Pv i σ' H' → SqL K H' a xs)
    (hs : ∀ i x σ' H', xs[i]? = some x → Pv i σ' H' → g x σ' H' fun σ2 H2 => tu { D with nx := Pv (i + 1), ct := Pv (i + 1), bk := D.nx } σ2 H2) (hd : ∀ σ' H', Pv xs.length σ' H' → D.nx σ' H') : ForGo (Itl K a) g tu D σ H := for_list Pv h0 hl hs hd
/-- what is made so far -/
def Lc (Pv : Addr → Nat → List V → Hp → Prop) (L : Addr) (i : Nat) (H : Hp) : Prop := ∃ acc, H L = some (.lst acc) ∧ acc.length ≤ i ∧ Pv L i acc H
/-- an item is put behind -/
theorem w_lcput {Pv : Addr → Nat → List V → Hp → Prop} {L : Addr} {i : Nat} {acc : List V} {y : V} (h : H L = some (.lst acc)) (ha : acc.length ≤ i) (hi : i < 10000000) (k : ∀ H5, Ch [L] H H5 → H5 L = some (.lst (acc ++ [y])) → Pv L (i + 1) (acc ++ [y]) H5) :
    ∃ acc, H L = some (.lst acc) ∧ acc.length < sizeLine ∧ Lc Pv L (i + 1) (upd H L (.lst (acc ++ [y]))) :=
  ⟨acc, h, by rw [sizeLine_eq]; omega, acc ++ [y], upd_same, by rw [List.length_append, List.length_singleton]; omega, k _ (.put h) upd_same⟩
/-- a turn that gives nothing -/
theorem w_lcskip {Pv : Addr → Nat → List V → Hp → Prop} {L : Addr} {i : Nat} {acc : List V} (h : H L = some (.lst acc)) (ha : acc.length ≤ i) (k : Pv L (i + 1) acc H) : Lc Pv L (i + 1) H := ⟨acc, h, by omega, k⟩
/-- the turn of a comprehension: its test, then its element, put behind what is made so far -/
def LcTurn (Pv : Addr → Nat → List V → Hp → Prop) (tt : TT) (te : TE) (L : Addr) (i : Nat) (σ2 : L2.St) (H : Hp) : Prop := tt σ2 H fun b H3 =>
  if b = true then te σ2 H3 fun y H4 => ∃ acc, H4 L = some (.lst acc) ∧ acc.length < sizeLine ∧ Lc Pv L (i + 1) (upd H4 L (.lst (acc ++ [y]))) else Lc Pv L (i + 1) H3
theorem w_turnY {Pv : Addr → Nat → List V → Hp → Prop} {L : Addr} {i : Nat} {σ2 : L2.St} (h : te σ2 H fun y H4 => ∃ acc, H4 L = some (.lst acc) ∧ acc.length < sizeLine ∧ Lc Pv L (i + 1) (upd H4 L (.lst (acc ++ [y])))) : LcTurn Pv tYes te L i σ2 H := h
theorem w_turn {Pv : Addr → Nat → List V → Hp → Prop} {L : Addr} {i : Nat} {σ2 : L2.St} (h : tt σ2 H fun b H3 =>
  if b = true then te σ2 H3 fun y H4 => ∃ acc, H4 L = some (.lst acc) ∧ acc.length < sizeLine ∧ Lc Pv L (i + 1) (upd H4 L (.lst (acc ++ [y]))) else Lc Pv L (i + 1) H3) : LcTurn Pv tt te L i σ2 H := h
/-- a comprehension over range(n): Pv L i acc H', the list so far acc -/
theorem w_lcR {n : Nat} (Pv : Addr → Nat → List V → Hp → Prop) (h0 : ∀ L H', H L = none → Ch [] H H' → H' L = some (.lst []) → Pv L 0 [] H')
    (hw : ∀ x, wipe ((wipe σ vs).set j (some x)) vs = wipe σ vs)
    (hs : ∀ L (i : Nat) acc H', H L = none → i < n → acc.length ≤ i → H' L = some (.lst acc) → Pv L i acc H' → LcTurn Pv tt te L i ((wipe σ vs).set j (some (.int (i : Int)))) H')
    (hd : ∀ L acc H', H L = none → H' L = some (.lst acc) → Pv L n acc H' → Q (.ref L) H') :
    LcGo (Itr 0 n) (gName j) tt te vs σ H Q := fun L hL =>
  lc_range (lo := 0) (n := n) (Lc Pv L) ⟨[], upd_same, Nat.le_refl _, h0 L _ hL (.new hL) upd_same⟩ (fun i H' hi p => by
    obtain ⟨acc, h1, h2, h3⟩ := p
    have e0 : (0 : Int) + (i : Int) = (i : Int) := Int.zero_add _
    rw [e0]
    exact ⟨hw _, hs L i acc H' hL hi h2 h1 h3⟩) (fun H' p => by
    obtain ⟨acc, h1, h2, h3⟩ := p
    exact hd L acc H' hL h1 h3)
theorem w_lcR2 {n : Nat} {lo : Int} (Pv : Addr → Nat → List V → Hp → Prop) (h0 : ∀ L H', H L = none → Ch [] H H' → H' L = some (.lst []) → Pv L 0 [] H')
    (hw : ∀ x, wipe ((wipe σ vs).set j (some x)) vs = wipe σ vs)
    (hs : ∀ L (i : Nat) acc H', H L = none → i < n → acc.length ≤ i → H' L = some (.lst acc) → Pv L i acc H' → LcTurn Pv tt te L i ((wipe σ vs).set j (some (.int (lo + (i : Int))))) H')
    (hd : ∀ L acc H', H L = none → H' L = some (.lst acc) → Pv L n acc H' → Q (.ref L) H') :
    LcGo (Itr lo n) (gName j) tt te vs σ H Q := fun L hL =>
  lc_range (lo := lo) (n := n) (Lc Pv L) ⟨[], upd_same, Nat.le_refl _, h0 L _ hL (.new hL) upd_same⟩ (fun i H' hi p => by
    obtain ⟨acc, h1, h2, h3⟩ := p
    exact ⟨hw _, hs L i acc H' hL hi h2 h1 h3⟩) (fun H' p => by
    obtain ⟨acc, h1, h2, h3⟩ := p
    exact hd L acc H' hL h1 h3)
theorem w_lcT (Pv : Addr → Nat → List V → Hp → Prop) (h0 : ∀ L H', H L = none → Ch [] H H' → H' L = some (.lst []) → Pv L 0 [] H')
    (hw : ∀ x, wipe ((wipe σ vs).set j (some x)) vs = wipe σ vs) (hl : ∀ L i acc H', H L = none → H' L = some (.lst acc) → Pv L i acc H' → SqT K H' a xs)
    (hs : ∀ L (i : Nat) x acc H', H L = none → xs[i]? = some x → acc.length ≤ i → H' L = some (.lst acc) → Pv L i acc H' → LcTurn Pv tt te L i ((wipe σ vs).set j (some x)) H')
    (hd : ∀ L acc H', H L = none → H' L = some (.lst acc) → Pv L xs.length acc H' → Q (.ref L) H') :
    LcGo (Itt K a) (gName j) tt te vs σ H Q := fun L hL =>
  lc_tup (xs := xs) (Lc Pv L) ⟨[], upd_same, Nat.le_refl _, h0 L _ hL (.new hL) upd_same⟩ (fun i H' _ p => by
    obtain ⟨acc, h1, h2, h3⟩ := p
    exact hl L i acc H' hL h1 h3) (fun i x H' hi p => by
    obtain ⟨acc, h1, h2, h3⟩ := p
    exact ⟨hw _, hs L i x acc H' hL hi h2 h1 h3⟩) (fun H' p => by
    obtain ⟨acc, h1, h2, h3⟩ := p
    exact hd L acc H' hL h1 h3)
theorem w_lcL (Pv : Addr → Nat → List V → Hp → Prop) (h0 : ∀ L H', H L = none → Ch [] H H' → H' L = some (.lst []) → Pv L 0 [] H')
    (hw : ∀ x, wipe ((wipe σ vs).set j (some x)) vs = wipe σ vs) (hl : ∀ L i acc H', H L = none → H' L = some (.lst acc) → Pv L i acc H' → SqL K H' a xs)
    (hs : ∀ L (i : Nat) x acc H', H L = none → xs[i]? = some x → acc.length ≤ i → H' L = some (.lst acc) → Pv L i acc H' → LcTurn Pv tt te L i ((wipe σ vs).set j (some x)) H')
    (hd : ∀ L acc H', H L = none → H' L = some (.lst acc) → Pv L xs.length acc H' → Q (.ref L) H') :
    LcGo (Itl K a) (gName j) tt te vs σ H Q := fun L hL =>
  lc_list (xs := xs) (Lc Pv L) ⟨[], upd_same, Nat.le_refl _, h0 L _ hL (.new hL) upd_same⟩ (fun i H' _ p => by
    obtain ⟨acc, h1, h2, h3⟩ := p
    exact hl L i acc H' hL h1 h3) (fun i x H' hi p => by
    obtain ⟨acc, h1, h2, h3⟩ := p
    exact ⟨hw _, hs L i x acc H' hL hi h2 h1 h3⟩) (fun H' p => by
    obtain ⟨acc, h1, h2, h3⟩ := p
    exact hd L acc H' hL h1 h3)
/-- a local's def is called -/
theorem w_callF {P : Program} {w : World} {mg : Str → Option Value} {base : Heap} {k : Nat} {f : Addr} {sp : Sp} (h : σ[n]? = some (some (.ref f))) (A : Held P w K mg base k f sp) (q : ta σ H fun vs H1 => sp vs H1 Q E0) : tCallF P w K mg base k n ta σ H Q := ⟨f, sp, h, A, q⟩
end

/-! ## by_size, called by sorted -/
/-- the text of by_size -/
structure SizeTxt (st : Stmt) : Prop where
  args : ∃ p, defArgs st = { posonlyargs := [], args := [{ arg := "face", annotation := none, pos := p }], vararg := none, kwonlyargs := [], kw_defaults := [], kwarg := none, defaults := [] }
  body : ∃ p1 p2 p3 p4 p5 p6 n, defBody st = [.Return (some (.Tuple [.Call (.Name "len" p1) [.Name "face" p2] [] p3, .Name "face" p4] n p5)) p6]
  sc : ∃ more, defScope st = { kind := .function, names := [(PySem.Str.ofString "face", .local), (PySem.Str.ofString "len", .globalImplicit)], isGenerator := false, isCoroutine := false, more := more }
section
variable {P : Program} {w : World} {K : PySem.W.Frag} {mg mb : Str → Option Value} {f t : Addr} {fd : FuncData} {st : Stmt} {A : Around} {s : Shared} {its : List Value} {ns : List Int}
theorem size_raw (F : Fun K "by_size" "by_size" st f fd) (S : SizeTxt st) (X : K.In s.heap) (hl : s.heap.NoLimit) (hg : s.heap.Ns mainGlobals mg) (hb : s.heap.Ns builtinsNs mb) (hbb : ∀ x : Str, x ≠ "__name__" → mb x = bootBuiltins x) (hm : mg "len" = none)
    (hd : A.depth < recursionLimit) (ht : IsTup s.heap t its.toArray) (hi : IntsAre its ns) (hz : its.length ≤ 1000000) :
    wpAny (model P w) A (call (.ref f) [.ref t]) (PySem.W.KeyPure (.tuple [.int ns.length, .tuple (ns.map .int)]) s) (fun _ _ => False) s := by
  obtain ⟨oc, od, kV, doc, pm, an, cdv, ct, osl, rfl, lk, hcd⟩ := F.ex
  obtain ⟨pa, ea⟩ := S.args
  obtain ⟨p1, p2, p3, p4, p5, p6, n, eb⟩ := S.body
  obtain ⟨more, es⟩ := S.sc
  rw [ea, eb, es] at lk
  refine wpAny_call (Att.call_fn (binds := [("face", .ref t)]) X hl lk hcd hd (BindsTo.of_eq rfl) rfl (fun s1 IC => ?_) rfl rfl rfl)
  obtain ⟨h1, tk1, rfl⟩ := IC.toInCall.same
  have k1 := IC.toInCall.keep
  have hn := IC.toInCall.ns
  have hsz : (its.toArray.size : Int) < 2 ^ 63 := by
    rw [List.size_toArray]
    omega
  refine wpAny_execs_cons (wpAny_Return_some (wpAny_Tuple_spliced ?_))
  refine Calls.spliced_cons (wpAny_Call_Name_kw (Calls.Name_function_global rfl rfl (Calls.loadGlobal_builtin (hg.keeps k1) hm (hb.keeps k1) ((hbb _ (by decide)).trans PySem.boot_len) ?_)))
  refine PyProof.Rows.callWith_builtin1 (Calls.spliced_cons (wpAny_Name (wpAny_loadName_local rfl rfl hn (by rfl) (Calls.spliced_nil ?_)))) rfl rfl
  refine PyProof.Rows.len_tuple (ht.keeps k1) hsz ?_
  refine Calls.spliced_cons (wpAny_Name (wpAny_loadName_local rfl rfl hn (by rfl) (Calls.spliced_nil ⟨by show 2 ≤ sizeLine; decide, ?_⟩)))
  have e1 : ((h1.push { cls := .type "tuple", data := .seq [Value.int its.toArray.size (tk1 + 1), .ref t].toArray } : Heap).get? t).isSome = true := by
    obtain ⟨o, ho, _⟩ := ht.keeps k1
    rw [Heap.get?_push_of_some _ ho]
    rfl
  refine ⟨_, _, rfl, fun b o e => Heap.get?_push_of_some _ (k1 b o e), ?_⟩
  obtain ⟨o, ho, hc, m, hdat⟩ := ht.keeps k1
  refine Reads.tuple (as := [] ++ ([] ++ [])) (Heap.get?_push_size _ rfl) rfl rfl (.cons ?_ (.cons ?_ .nil))
  · rw [List.size_toArray, hi.length]
    exact Reads.int _ _
  · exact Reads.tuple (Heap.get?_push_of_some _ ho) hc hdat (PyProof.Rows.IntsAre.reads _ hi)
end
/-- by size, then rising -/
def faceLe (p q : List Int) : Bool := decide (p.length < q.length ∨ (p.length = q.length ∧ p ≤ q))
def sizeKey (b : Addr × List Int) : PyData := .tuple [.int b.2.length, .tuple (b.2.map .int)]
theorem eqv_ints : ∀ xs ys : List Int, PyData.eqv (.tuple (xs.map .int)) (.tuple (ys.map .int)) = decide (xs = ys) := by
  have h : ∀ xs ys : List Int, PyData.eqvAll (xs.map .int) (ys.map .int) = decide (xs = ys) := by
    intro xs
    induction xs with
    | nil =>
      intro ys
      cases ys with
      | nil => simp [PyData.eqvAll]
      | cons y ys => simp [PyData.eqvAll]
    | cons x xs ih =>
      intro ys
      cases ys with
      | nil => simp [PyData.eqvAll]
      | cons y ys =>
        simp only [List.map_cons, PyData.eqvAll, ih ys, PyData.eqv]
        by_cases h1 : x = y <;> by_cases h2 : xs = ys <;> simp [h1, h2]
  intro xs ys
  simp only [PyData.eqv, h]
theorem sizeLt (n m : Int) (xs ys : List Int) : PySem.W.dataLt (.tuple [.int n, .tuple (xs.map .int)]) (.tuple [.int m, .tuple (ys.map .int)]) = decide (n < m ∨ (n = m ∧ xs < ys)) := by
  rw [PySem.W.dataLt_pair (by simp [PySem.W.alike]) (by simp [PySem.W.alike, PySem.W.alike_ints]), PySem.W.dataLt_int, PySem.W.dataLt_tuple, eqv_ints]
  have e := PySem.W.dataLt_ints xs ys
  unfold PySem.W.rowLt at e
  rw [e]
  by_cases h1 : n = m
  · subst h1
    by_cases h2 : xs = ys
    · subst h2
      simp [PyData.eqv, List.lt_irrefl]
    · simp [PyData.eqv, h2]
  · simp [PyData.eqv, h1]
theorem sizeLe : PySem.W.dataLe false sizeKey = fun p q => faceLe p.2 q.2 := by
  funext p q
  show (!PySem.W.dataLt (sizeKey q) (sizeKey p)) = _
  unfold sizeKey faceLe
  rw [sizeLt]
  by_cases h : q.2 < p.2
  · have h' : ¬ p.2 ≤ q.2 := fun r => List.not_lt.mpr r h
    by_cases h1 : p.2.length < q.2.length
    · simp [h1]
      omega
    · by_cases h2 : p.2.length = q.2.length
      · simp [h, h', h2]
      · simp [h1, h2]
        omega
  · have h' : p.2 ≤ q.2 := List.not_lt.mp h
    by_cases h1 : p.2.length < q.2.length
    · simp [h1]
      omega
    · by_cases h2 : p.2.length = q.2.length
      · simp [h, h', h2]
      · simp [h1, h2]
        omega
/-- sorted(xs, key=by_size), xs tuples of ints -/
def rSortSz (K : PySem.W.Frag) (f : Addr) : List V → List V → Hp → VK → Prop := fun vs zs H Q => ∃ (a : Addr) (bs : List (Addr × List Int)), vs = [.ref a] ∧ zs = [.ref f] ∧ SqL K H a (bs.map fun b => .ref b.1) ∧ (∀ b ∈ bs, SqT K H b.1 (b.2.map V.int)) ∧
  bs.length ≤ 1000000 ∧ (∀ b ∈ bs, b.2.length ≤ 1000000) ∧ New H (.lst ((bs.mergeSort fun p q => faceLe p.2 q.2).map fun b => .ref b.1)) Q
section
variable {X : Cx} {f : Addr} {fd : FuncData} {st : Stmt} {k : Nat}
theorem each_refs : ∀ {bs : List (Addr × List Int)} {its : List Value}, Vals (bs.map fun b => V.ref b.1) its → PySem.W.EachIs (fun v (b : Addr × List Int) => v = .ref b.1) its bs
  | [], _, r => by
    cases r
    exact .nil
  | b :: bs, _, r => by
    cases r with
    | cons r1 r2 => exact .cons r1 (each_refs r2)
theorem refs_each : ∀ {bs : List (Addr × List Int)} {its : List Value}, PySem.W.EachIs (fun v (b : Addr × List Int) => v = .ref b.1) its bs → Vals (bs.map fun b => V.ref b.1) its
  | _, _, .nil => .nil
  | _, _, .cons r1 r2 => .cons r1 (refs_each r2)
theorem depth_size (b : Addr × List Int) : (sizeKey b).depth ≤ 3 := by
  have h := PySem.W.depth_ints b.2
  simp only [sizeKey, PyData.depth, PyData.depthAll, h]
  decide
theorem cr_sortSz (F : Fun X.K "by_size" "by_size" st f fd) (S : SizeTxt st) (hm : X.mg "len" = none) (hr : Room k X.A) : CallRK X (.builtin "sorted") [Str.ofString "key"] (rSortSz X.K f) := by
  intro pins s σ H vs zs us ws Q I r1 r2 h
  obtain ⟨a, bs, rfl, rfl, hq, ht, hz, hz2, q⟩ := h
  cases r1 with
  | cons r1 r1' =>
  cases r1'
  cases r1
  cases r2 with
  | cons r2 r2' =>
  cases r2'
  cases r2
  obtain ⟨its, rv, hl, _⟩ := I.list hq
  have hu := hr.units
  refine PySem.W.sorted_key_data (b := false) sizeKey hl.isList (each_refs rv) (PySem.W.AllAlike.of fun b b' => ?_) (PySem.W.Sortable.tuples fun b => ⟨_, _, rfl⟩) (by rw [sizeLine_eq]; omega) (fun b _ => ?_) (ksk_s1 _ _) (fun _ => ksk_l1 _ _) (fun _ => ksk_t1 _ _) (fun v b hv hb h tk kp => ?_) fun out c h' tk kp fr ho lo eo => ?_
  · simp [sizeKey, PySem.W.alike, PySem.W.alikeAll, PySem.W.alike_ints]
  · have := depth_size b
    omega
  · subst hv
    obtain ⟨ts, rt, htu, _⟩ := I.tuple (ht b hb)
    obtain ⟨mb, m1, m2⟩ := I.mod.blt
    have kb : ∀ a o, X.base.get? a = some o → h.get? a = some o := fun a o e => kp a o (I.bk a o e)
    refine size_raw (s := { s with heap := h, toks := tk }) F S (I.kIn.keeps kp) (I.nolimit.keeps kp) (I.mod.glob.keeps kb) (m1.keeps kb) m2 hm hr.depth (htu.keeps kp) (intsAre_of rt) ?_
    rw [← rt.length, List.length_map]
    exact hz2 b hb
  · rw [sizeLe] at eo
    have hf : H (s.heap.objs.size + 1) = none := I.hok.fresh (Nat.le_succ _)
    refine ⟨.ref (s.heap.objs.size + 1), upd H (s.heap.objs.size + 1) (.lst ((bs.mergeSort fun p q => faceLe p.2 q.2).map fun b => .ref b.1)), I.laid kp (Nat.le_succ _) ?_, rfl, q _ hf⟩
    refine ⟨by rw [List.length_map, List.length_mergeSort, sizeLine_eq]; omega, out, c, refs_each eo, ho⟩
end

/-! ## set(xs), xs a list of ints, as a set that may be walked and sorted -/
section
variable {P : Program} {w : World} {A : Around} {E : Value → Shared → Prop} {s : Shared}
/-- an empty set's object -/
abbrev noSet (w : World) : Obj := { cls := .type "set", dict := none, data := .set #[] 0 (.fresh 0 0 (!w.params.followText "set-order")) }
/-- set.__init__ of a new set at the heap's end, from a list of ints -/
theorem init_list {l : Addr} {items : Array Value} (ns : List Int) {B : Around} (hh : B.in1.in1.handled = none) (hl : s.heap.IsList l items) (hit : IntsAre items.toList ns) (hb : ns.length + 1 < scanBound) {R : PySem.Fin → Shared → Prop} {F' : Value → Shared → Prop}
    (h : ∀ (h' : Heap) (tk c : Nat), SetR w h' s.heap.objs.size (fun j => decide (j ∈ ns)) c → c ≤ ns.length → (∀ b o, s.heap.get? b = some o → h'.get? b = some o) → R (.done (.ret .none)) { s with heap := h', toks := tk }) :
    wpAny (model P w) B.in1 (Builtin.«set.__init__» ⟨[.ref s.heap.objs.size, .ref l], []⟩) R F' { s with heap := s.heap.push (noSet w) } := by
  have hisz : items.size = ns.length := (Array.length_toList (xs := items)).symm.trans (IntsAre.length hit)
  have hS : (s.heap.push (noSet w)).get? s.heap.objs.size = some (noSet w) := Heap.get?_push_size _ rfl
  obtain ⟨⟨ocls, odict, odata, oslots⟩, hol, hcl, nl, hdl⟩ := hl
  obtain rfl : ocls = .type "list" := hcl
  obtain rfl : odata = .seq items nl := hdl
  have hol' : (s.heap.push (noSet w)).get? l = some { cls := .type "list", dict := odict, data := .seq items nl, slots := oslots } := Heap.get?_push_of_some _ hol
  have hsls := F.sub_list_set
  have hslf := F.sub_list_frozenset
  have hne : (Value.type "list" == Value.type "dict") = false := by decide
  have hl1 : (s.heap.push (noSet w)).IsList l items := ⟨_, hol', rfl, nl, rfl⟩
  unfold Builtin.«set.__init__» noKeywords Builtin.Frozenset.updateFrom
  generalize hPI : pyIter = PI
  wp_walk
  subst hPI
  refine wpAny_pyIter_list hl1 (wpAny_bind (wpAny_runValue ?_))
  have hlS : l < s.heap.objs.size := Heap.lt_size hol
  have size1 : (s.heap.push (noSet w)).objs.size = s.heap.objs.size + 1 := Heap.size_push ..
  have apart : ∀ b, b < s.heap.objs.size → b ≠ (s.heap.push (noSet w)).objs.size := fun b hb z => by
    rw [size1] at z
    omega
  have hval : ∀ (i : Nat) (v : Value), items[i]? = some v → ∃ k t, ns[i]? = some k ∧ v = .int k t := fun i v hv => by
    have hi : i < ns.length := hisz ▸ (Array.getElem?_eq_some_iff.mp hv).1
    obtain ⟨t, e⟩ := PyProof.Rows.IntsAre.int_at hit i v (by rw [Array.getElem?_toList]; exact hv)
    exact ⟨ns[i], t, List.getElem?_eq_getElem hi, by rw [e, List.getD_eq_getElem?_getD, List.getElem?_eq_getElem hi] <;> rfl⟩
  refine set_update_ints ((Walks.list hh _ l (apart l hlS) items).toS) s.heap.objs.size (fun z => ?_) ns hisz hb hval (items.size - 0) 0 _ (by omega) (Nat.zero_le _)
    ⟨⟨_, Heap.get?_push_size _ rfl, rfl, rfl⟩, hl1.push _⟩ ⟨0, Nat.le_refl 0, setR_new_at (Heap.get?_push_of_some _ hS)⟩ fun s' c hm hc hS' => ?_
  · rcases List.mem_cons.mp z with z | z
    · rw [size1] at z
      exact absurd z (Nat.ne_of_lt (Nat.lt_succ_self _))
    · exact absurd (List.mem_singleton.mp z) (Nat.ne_of_gt hlS)
  · obtain ⟨h', g2, d', tk', os'⟩ := s'
    obtain rfl : g2 = s.gens := hm.gens
    obtain rfl : d' = s.drawn := hm.drawn
    obtain rfl : os' = s.os := hm.os
    refine wpAny_pure (wpAny_pure (h h' tk' c hS' (hisz ▸ hc) fun b o e => ?_))
    have hb0 : b < s.heap.objs.size := Heap.lt_size e
    refine hm.heap b o (fun z => ?_) (Heap.get?_push_of_some _ (Heap.get?_push_of_some _ e))
    rcases List.mem_cons.mp z with z | z
    · exact absurd z (Nat.ne_of_lt hb0)
    · exact apart b hb0 (List.mem_singleton.mp z)
/-- set(xs) -/
theorem set_of_list {l : Addr} {items : Array Value} (ns : List Int) {Q : Value → Shared → Prop} (hh : A.handled = none) (hl : s.heap.IsList l items) (hit : IntsAre items.toList ns) (hb : ns.length + 1 < scanBound)
    (h : ∀ (h' : Heap) (tk c : Nat), SetR w h' s.heap.objs.size (fun j => decide (j ∈ ns)) c → c ≤ ns.length → (∀ b o, s.heap.get? b = some o → h'.get? b = some o) → Q (.ref s.heap.objs.size) { s with heap := h', toks := tk }) :
    wpAny (model P w) A (call (.type "set") [.ref l]) Q E s := by
  obtain ⟨c, tl, hmro⟩ := F.called_set.mro
  have hmade := F.called_set.made
  have hsub := F.called_set.sub
  refine wpAny_call (codeAny_of_tree ?_)
  show wpAny _ _ (callAny (.type "set") _) _ _ _
  refine wpAny_pure ⟨Code.quiet_builtin _ (by decide +kernel), codeAny_builtin F.entry_type_call ?_⟩
  rw [Around.under_plain (weight_type_call_type "set" [.ref l] []) rfl]
  have h1 := F.called_set.notType
  have h2 := F.called_set.canCreate
  have hct := F.typeCall_set_1 (.ref l)
  repeat (any_goals (first | assumption | wp_step))
  refine codeAny_mono (code_set_led1 (.ref l) (E := E) (Q₁ := fun obj s₁ => obj = .ref s.heap.objs.size ∧ s₁ = { s with heap := s.heap.push (noSet w) }) ⟨rfl, rfl⟩) fun r s₁ hr => ?_
  match r, hr with
  | .error e, hr => exact hr
  | .ok .next, hr => exact False.elim hr
  | .ok .brk, hr => exact False.elim hr
  | .ok .cont, hr => exact False.elim hr
  | .ok (.ret obj), hr =>
    obtain ⟨rfl, rfl⟩ := hr
    have hS : (s.heap.push (noSet w)).get? s.heap.objs.size = some (noSet w) := Heap.get?_push_size _ rfl
    have hT : Shared.TypeIs { s with heap := s.heap.push (noSet w) } (.ref s.heap.objs.size) "set" := ⟨_, hS, rfl⟩
    have hli := F.called_set.init.lookup
    have hbi := F.called_set.init.bind (.ref s.heap.objs.size)
    repeat (any_goals (first | assumption | wp_step))
    refine codeAny_mono (codeAny_call_builtin (R := wants (fun r s₂ => r = .none ∧ ∃ h' tk c, s₂ = { s with heap := h', toks := tk } ∧ SetR w h' s.heap.objs.size (fun j => decide (j ∈ ns)) c ∧ c ≤ ns.length ∧ (∀ b o, s.heap.get? b = some o → h'.get? b = some o)) E)
      F.called_set.init.plain F.entry_set_init (check_set_init_1 hT (init_list ns (by simp [hh]) hl hit hb fun h' tk c a1 a2 a3 => ⟨rfl, h', tk, c, rfl, a1, a2, a3⟩))) fun r₂ s₂ hr₂ => ?_
    match r₂, hr₂ with
    | .error e, hr => exact hr
    | .ok .next, hr => exact False.elim hr
    | .ok .brk, hr => exact False.elim hr
    | .ok .cont, hr => exact False.elim hr
    | .ok (.ret r), ⟨e, h', tk, c, e2, a1, a2, a3⟩ =>
      subst e e2
      repeat (any_goals (first | assumption | wp_step))
      exact h _ _ _ a1 a2 a3
end
section
variable {X : Cx}
/-- set(xs) by values -/
def rSetI (K : PySem.W.Frag) (w : World) : List V → Hp → VK → Prop := fun vs H Q => ∃ (l : Addr) (ns : List Int), vs = [.ref l] ∧ SqL K H l (ns.map V.int) ∧ ns.length ≤ 1000 ∧ ∀ p c, c ≤ ns.length → H p = none → Q (.ref p) (upd H p (SetO w p (fun j => decide (j ∈ ns)) c))
theorem cr_setI (hc : X.calm = true) : CallR X (.type "set") (rSetI X.K X.w) := by
  intro pins s σ H vs us Q I r h
  obtain ⟨l, ns, rfl, hq, hz, q⟩ := h
  rw [Vals.ref1 r]
  obtain ⟨its, rv, hl, _⟩ := I.list hq
  refine set_of_list ns (I.ok.hd hc) hl.isList (by simpa using intsAre_of rv) (Nat.lt_of_le_of_lt (Nat.succ_le_succ hz) (by decide)) fun h' tk c a1 a2 a3 => ?_
  exact ⟨.ref s.heap.objs.size, upd H s.heap.objs.size (SetO X.w s.heap.objs.size (fun j => decide (j ∈ ns)) c), I.laid (t' := tk) a3 (Nat.le_refl _) (setO_new a1), rfl, q _ c a2 (I.hok.fresh (Nat.le_refl _))⟩
/-- sorted(set(xs)), the set made on the way -/
def rising (ns ms : List Int) : Prop := ms.Pairwise (· < ·) ∧ ∀ k, k ∈ ms ↔ k ∈ ns
variable {K : PySem.W.Frag} {H : Hp} {Q : VK} {l : Addr} {ns : List Int} {w : World}
theorem w_setI (h : SqL K H l (ns.map V.int)) (hz : ns.length ≤ 1000) (q : ∀ p c H', c ≤ ns.length → H p = none → Ch [] H H' → H' p = some (SetO w p (fun j => decide (j ∈ ns)) c) → Q (.ref p) H') : rSetI K w [.ref l] H Q :=
  ⟨l, ns, rfl, h, hz, fun p c hc hp => q p c _ hc hp (.new hp) upd_same⟩
theorem w_sortSet {p : Addr} {c : Nat} (h : H p = some (SetO w p (fun j => decide (j ∈ ns)) c)) (hc : c < 64) (q : ∀ (ms : List Int) m H', rising ns ms → ms.length = c → H m = none → Ch [] H H' → H' m = some (.lst (ms.map V.int)) → Q (.ref m) H') : rSortedSet w [.ref p] H Q :=
  ⟨p, _, c, rfl, h, hc, fun ms m h1 h2 h3 hm => q ms m _ ⟨h1, fun k => (h2 k).trans (by simp)⟩ h3 hm (.new hm) upd_same⟩
end
/-! ## tuples: which object it is does not matter -/
section
variable {K : PySem.W.Frag} {H H' : Hp} {Q : VK} {a b p : Addr} {xs ys : List V} {S : List Addr} {lo hi : Option Int} {f : Addr} {w : World}
theorem sqt_new (h : H p = some (.tup xs)) : SqT K H p xs := .inl (.inl h)
theorem w_catA (h1 : SqT K H a xs) (h2 : SqT K H b ys) (hz : xs.length + ys.length ≤ sizeLine) (q : ∀ t H', Ch [] H H' → SqT K H' t (xs ++ ys) → Q (.ref t) H') : rCatA K (.ref a) (.ref b) H Q := by
  refine ⟨a, b, xs, ys, rfl, rfl, h1, h2, hz, fun e => ?_, fun _ e => ?_, fun _ _ p hp => q p _ (.new hp) (sqt_new upd_same)⟩
  · subst e
    exact q b H .refl h2
  · subst e
    exact q a H .refl (by rw [List.append_nil]; exact h1)
theorem w_slA (h : SqT K H a xs) (q : ∀ t H', Ch [] H H' → SqT K H' t (cutV xs lo hi) → Q (.ref t) H') : rSlA K (.ref a) lo hi H Q := by
  refine ⟨a, xs, rfl, h, fun e => q a H .refl ?_, fun _ p hp => q p _ (.new hp) (sqt_new upd_same)⟩
  have e2 : cutV xs lo hi = xs := by
    unfold cutV
    rw [e.1, e.2, List.drop_zero, Nat.sub_zero, List.take_length]
  rw [e2]
  exact h
/-- a new tuple -/
theorem w_newT {n : Nat} (hz : n ≤ sizeLine) (h : ∀ p H', Ch [] H H' → SqT K H' p xs → Q (.ref p) H') : n ≤ sizeLine ∧ New H (.tup xs) Q := ⟨hz, w_new fun p H' _ c e => h p H' c (sqt_new e)⟩
theorem w_tupOf (h : SqL K H p xs) (q : ∀ t H', Ch [] H H' → SqT K H' t xs → Q (.ref t) H') : rTupOf K [.ref p] H Q := w_tupL h fun l H' _ c e => q l H' c (sqt_new e)
theorem cut_take {xs : List V} {k : Nat} (h : k ≤ xs.length) : cutV xs none (some (k : Int)) = xs.take k := by
  unfold cutV
  rw [HT.sIx_none, show HT.sIx xs.length xs.length (some (k : Int)) = min k xs.length from HT.sIx_nat _ _ k, Nat.sub_zero, List.drop_zero, Nat.min_eq_left h]
theorem cut_drop {xs : List V} {k : Nat} (h : k ≤ xs.length) : cutV xs (some (k : Int)) none = xs.drop k := by
  unfold cutV
  rw [HT.sIx_none, show HT.sIx xs.length 0 (some (k : Int)) = min k xs.length from HT.sIx_nat _ _ k, Nat.min_eq_left h]
  exact List.take_of_length_le (by rw [List.length_drop]; exact Nat.le_refl _)
theorem w_rev {n : Nat} (h : H p = some (.lst xs)) (q : ∀ H', Ch [p] H H' → H' p = some (.lst xs.reverse) → Q .non H') : rReverse (.ref p) [] H Q := ⟨p, xs, rfl, rfl, h, q _ (.put h) upd_same⟩
theorem w_ckw {r : List V → List V → Hp → VK → Prop} {t tk : TA} {σ : L2.St} (h : t σ H fun vs H1 => tk σ H1 fun zs H2 => r vs zs H2 Q) : tCKw r t tk σ H Q := h
theorem w_bm0 {T : String} {r : V → List V → Hp → VK → Prop} {te : TE} {σ : L2.St} (h : te σ H fun x H1 => tyV K T x H1 ∧ r x [] H1 Q) : tBM0 K T r te σ H Q := h

/-! ## a list of tuples of ints -/
/-- at l a list of the tuples fs -/
def LT (K : PySem.W.Frag) (H : Hp) (l : Addr) (fs : List (List Int)) : Prop := ∃ bs : List (Addr × List Int), H l = some (.lst (bs.map fun b => .ref b.1)) ∧ (∀ b ∈ bs, SqT K H b.1 (b.2.map V.int)) ∧ bs.map (·.2) = fs
theorem Ch.sqts {bs : List (Addr × List Int)} (c : Ch S H H') (h : ∀ b ∈ bs, SqT K H b.1 (b.2.map V.int)) : ∀ b ∈ bs, SqT K H' b.1 (b.2.map V.int) := fun b hb => c.sqt (h b hb)
theorem LT.keep {fs : List (List Int)} (h : LT K H a fs) (c : Ch [] H H') : LT K H' a fs := let ⟨bs, h1, h2, h3⟩ := h; ⟨bs, c.lst h1, c.sqts h2, h3⟩
theorem LT.but {fs : List (List Int)} (h : LT K H a fs) (c : Ch [p] H H') (n : a ≠ p) : LT K H' a fs := let ⟨bs, h1, h2, h3⟩ := h; ⟨bs, c.but h1 n, c.sqts h2, h3⟩
theorem dp_tup {t : Addr} {ns : List Int} (h : SqT K H t (ns.map V.int)) : Dp K H (.ref t) (.tuple (ns.map .int)) := by
  have allInts : ∀ ns : List Int, DpAll K H (ns.map V.int) (ns.map PyData.int) := fun ns => by
    induction ns with
    | nil => exact .nil
    | cons n ns ih => exact .cons (.int n) ih
  exact .tup h (allInts ns)
def encT (f : List Int) : PyData := .tuple (f.map .int)
theorem dp_refs : ∀ {bs : List (Addr × List Int)}, (∀ b ∈ bs, SqT K H b.1 (b.2.map V.int)) → DpAll K H (bs.map fun b => V.ref b.1) ((bs.map (·.2)).map encT)
  | [], _ => .nil
  | b :: bs, h => .cons (dp_tup (h b List.mem_cons_self)) (dp_refs fun x hx => h x (List.mem_cons_of_mem _ hx))
theorem LT.dp {fs : List (List Int)} (h : LT K H a fs) : Dp K H (.ref a) (.list (fs.map encT)) := by
  obtain ⟨bs, h1, h2, rfl⟩ := h
  exact .lst (SqL.of h1) (dp_refs h2)
theorem ints_small {k : Nat} {ns : List Int} (h : ∀ x ∈ ns, x.natAbs < 10 ^ k) : smallAll k (ns.map PyData.int) = true := by
  rw [smallAll_iff]
  intro x hx
  obtain ⟨n, hn, rfl⟩ := List.mem_map.mp hx
  simpa [small] using h n hn
theorem ints_cost (k : Nat) (ns : List Int) : costAll k (ns.map PyData.int) ≤ (k + 3) * ns.length := by
  have h := costAll_le (k := k) (m := k + 1) (xs := ns.map PyData.int) fun x hx => by
    obtain ⟨n, hn, rfl⟩ := List.mem_map.mp hx
    exact Nat.le_refl _
  rw [List.length_map] at h
  exact h
theorem encT_depth (f : List Int) : (encT f).depth ≤ 1 := by
  simp only [encT, PyData.depth, PySem.W.depth_ints]
  decide
theorem encT_cost (k : Nat) (f : List Int) : cost k (encT f) ≤ (k + 3) * f.length + 4 := by
  have := ints_cost k f
  show costAll k _ + 4 ≤ _
  omega
theorem depthAll_le {m : Nat} : ∀ {xs : List PyData}, (∀ x ∈ xs, x.depth ≤ m) → PyData.depthAll xs ≤ m
  | [], _ => by simp [PyData.depthAll]
  | x :: xs, h => by
    have h1 := h x List.mem_cons_self
    have h2 := depthAll_le (xs := xs) fun y hy => h y (List.mem_cons_of_mem _ hy)
    simp only [PyData.depthAll]
    omega
/-- the text of a list of faces -/
def txtF (fs : List (List Int)) : Str := (PyData.list (fs.map encT)).shown
theorem w_reprF {fs : List (List Int)} (h : LT K H a fs) (hl : fs.length ≤ 4000) (hz : ∀ f ∈ fs, f.length ≤ 40 ∧ ∀ x ∈ f, x.natAbs < 10 ^ 70) (q : Q (.str (txtF fs)) H) : rReprD K [.ref a] H Q := by
  refine ⟨a, _, 70, rfl, h.dp, ?_, by decide, ?_, ?_, q⟩
  · have := depthAll_le (m := 1) (xs := fs.map encT) fun x hx => by
      obtain ⟨f, _, rfl⟩ := List.mem_map.mp hx
      exact encT_depth f
    simp only [PyData.depth]
    omega
  · show smallAll 70 _ = true
    rw [smallAll_iff]
    intro x hx
    obtain ⟨f, hf, rfl⟩ := List.mem_map.mp hx
    exact ints_small (hz f hf).2
  · have := costAll_le (k := 70) (m := 2924) (xs := fs.map encT) fun x hx => by
      obtain ⟨f, hf, rfl⟩ := List.mem_map.mp hx
      have h1 := encT_cost 70 f
      have h2 := (hz f hf).1
      have h3 : 73 * f.length ≤ 73 * 40 := Nat.mul_le_mul_left _ h2
      omega
    rw [List.length_map] at this
    show costAll 70 _ + 4 ≤ sizeLine
    rw [sizeLine_eq]
    have : (2924 + 2) * fs.length ≤ 2926 * 4000 := Nat.mul_le_mul_left _ hl
    omega
/-- sorted by size, of such a list -/
theorem w_sortSz {bs : List (Addr × List Int)} (h : SqL K H a (bs.map fun b => .ref b.1)) (ht : ∀ b ∈ bs, SqT K H b.1 (b.2.map V.int)) (hl : bs.length ≤ 1000000) (hz : ∀ b ∈ bs, b.2.length ≤ 1000000)
    (q : ∀ l H', H l = none → Ch [] H H' → LT K H' l ((bs.map (·.2)).mergeSort faceLe) → Q (.ref l) H') : rSortSz K f [.ref a] [.ref f] H Q := by
  refine ⟨a, bs, rfl, rfl, h, ht, hl, hz, w_new fun l H' hn c e => q l H' hn c ⟨_, e, fun b hb => c.sqt (ht b (List.mem_mergeSort.mp hb)), ?_⟩⟩
  exact PySem.W.sort_maps (r := fun p q : Addr × List Int => faceLe p.2 q.2) (s := faceLe) (·.2) fun _ _ _ _ => rfl
end
/-! ## sorted of data -/
section
variable {X : Cx} {K : PySem.W.Frag} {H : Hp} {Q : VK} {a : Addr}
def rSortD (K : PySem.W.Frag) : List V → Hp → VK → Prop := fun vs H Q => ∃ (a : Addr) (bs : List (V × PyData)), vs = [.ref a] ∧ SqL K H a (bs.map (·.1)) ∧ (∀ b ∈ bs, Dp K H b.1 b.2) ∧ PySem.W.AllAlike (bs.map (·.2)) ∧ PySem.W.Sortable (bs.map (·.2)) ∧
  bs.length ≤ 1000000 ∧ (∀ b ∈ bs, b.2.depth ≤ 40) ∧ New H (.lst ((bs.mergeSort (PySem.W.dataLe false Prod.snd)).map (·.1))) Q
theorem each_vals : ∀ {bs : List (V × PyData)} {its : List Value}, Vals (bs.map (·.1)) its → PySem.W.EachIs (fun v (b : V × PyData) => RelV b.1 v) its bs
  | [], _, r => by
    cases r
    exact .nil
  | b :: bs, _, r => by
    cases r with
    | cons r1 r2 => exact .cons r1 (each_vals r2)
theorem vals_each : ∀ {bs : List (V × PyData)} {its : List Value}, PySem.W.EachIs (fun v (b : V × PyData) => RelV b.1 v) its bs → Vals (bs.map (·.1)) its
  | _, _, .nil => .nil
  | _, _, .cons r1 r2 => .cons r1 (vals_each r2)
theorem each_reads {pins : List (Addr × Obj)} {σ : L2.St} {H : Hp} {s : Shared} (I : Inv X pins σ H s) : ∀ {bs : List (V × PyData)} {its : List Value}, (∀ b ∈ bs, Dp X.K H b.1 b.2) → PySem.W.EachIs (fun v (b : V × PyData) => RelV b.1 v) its bs →
    PySem.W.EachIs (fun v (b : V × PyData) => ∃ as, Reads s.heap v b.2 as) its bs
  | _, _, _, .nil => .nil
  | b :: _, _, h, .cons r1 r2 => .cons (Dp.reads I b.2 _ _ (h b List.mem_cons_self) r1) (each_reads I (fun x hx => h x (List.mem_cons_of_mem _ hx)) r2)
theorem cr_sortD (hu : X.A.units + 64 < cLine) : CallR X (.builtin "sorted") (rSortD X.K) := by
  intro pins s σ H vs us Q I r h
  obtain ⟨a, bs, rfl, hq, hd, hal, hso, hz, hdp, q⟩ := h
  rw [Vals.ref1 r]
  obtain ⟨its, rv, hl, _⟩ := I.list hq
  have e := each_vals rv
  refine PySem.W.sorted_data (enc := Prod.snd) hl.isList e (each_reads I hd e) hal hso (by rw [sizeLine_eq]; omega) (fun b hb => by have := hdp b hb; omega) fun out lo eo => ?_
  have hf : H (s.heap.objs.size + 1) = none := I.hok.fresh (Nat.le_succ _)
  refine ⟨.ref (s.heap.objs.size + 1), _, I.laid (t' := s.toks) (fun b o eb => sortedAll_old eb) (Nat.le_succ _) ?_, rfl, q _ hf⟩
  obtain ⟨c, hc⟩ := sortedAll_at s.heap its out.toArray
  exact ⟨by rw [List.length_map, List.length_mergeSort, sizeLine_eq]; omega, out, c, vals_each eo, hc⟩
end
/-! ## sorting tuples of which some may be empty -/
section
variable {prog : Program} {w : World} {A : Around} {E : Value → Shared → Prop} {s : Shared}
theorem call_tuple_lt {Q : Value → Shared → Prop} {l b : Addr} {items items2 : Array Value} {e r : Nat → Bool} (hl : s.heap.IsTuple l items) (hb : s.heap.IsTuple b items2)
    (he : ∀ j (h1 : j < items.size) (h2 : j < items2.size), SeqAt.EqAt A.in1 s items[j] items2[j] (e j)) (hr : ∀ j (h1 : j < items.size) (h2 : j < items2.size), e j = false → SeqAt.RcLt A.in1 s items[j] items2[j] (r j))
    (h : Q (.bool (SeqAt.firstLt e r (decide (items.size < items2.size)) (List.range (min items.size items2.size)))) s) : wpAny (model prog w) A (call (.builtin "tuple.__lt__") [.ref l, .ref b]) Q E s := by
  obtain ⟨⟨cls, dd, data, sl⟩, ho, hc, n, hd⟩ := id hl
  obtain ⟨⟨cls2, dd2, data2, sl2⟩, ho2, hc2, n2, hd2⟩ := id hb
  simp only at hc hd hc2 hd2
  subst hc hd hc2 hd2
  exact call_meets F.slot_tuple_lt ⟨_, ho, rfl⟩ F.entry_tuple_lt (F.args_tuple_lt_2 _ _) (SeqAt.tuple_ltAt l b items items2 n n2 dd dd2 sl sl2 e r) ⟨ho, ho2, he, hr, h⟩
theorem oneLt_tup {xs ys : List PyData} {a b : Value} {as bs : List Addr} {Q : Bool → Shared → Prop} (ra : Reads s.heap a (.tuple xs) as) (rb : Reads s.heap b (.tuple ys) bs) (hal : PySem.W.alikeAll xs ys = true)
    (hu : A.units + min (PyData.tuple xs).depth (PyData.tuple ys).depth < cLine) (hq : Q (PySem.W.dataLt (.tuple xs) (.tuple ys)) s) : wpAny (model prog w) A (oneLt' true a b) Q E s := by
  cases ra with
  | @tuple l o vs n _ as₁ h1 h2 h3 h4 =>
    cases rb with
    | @tuple l' o' vs' n' _ bs₁ k1 k2 k3 k4 =>
      have n1 : vs.size = xs.length := by simpa using SeqAt.ReadsAll.length _ _ _ h4
      have n2 : vs'.size = ys.length := by simpa using SeqAt.ReadsAll.length _ _ _ k4
      rw [PySem.W.dataLt_tuple, ← PySem.W.firstLt_toks xs ys hal, ← n1, ← n2] at hq
      rw [oneLt'_eq]
      simp only [if_true]
      refine wpAny_bind (wpAny_cRoomFor (SeqAt.room_here hu) ?_)
      refine wpAny_bind (wpAny_callSpecialIfBound?_slot (T := "tuple") ⟨_, h1, h2⟩ F.slot_tuple_lt (call_tuple_lt (e := SeqAt.pairEq xs ys) (r := fun j => PySem.W.dataLt (xs.getD j .none) (ys.getD j .none)) ⟨_, h1, h2, _, h3⟩ ⟨_, k1, k2, _, k3⟩ (fun j j1 j2 => ?_) (fun j j1 j2 hj => ?_) ?_))
      · have := PySem.W.eqAt_alikeAll xs ys A.in1 s vs.toList vs'.toList _ _ h4 k4 hal (SeqAt.room_in hu) j (by simpa using j1) (by simpa using j2)
        simpa using this
      · have := PySem.W.rcLt_alikeAll xs ys A.in1 s vs.toList vs'.toList _ _ h4 k4 hal (SeqAt.room_in hu) j (by simpa using j1) (by simpa using j2) hj
        simpa using this
      · exact wpAny_truthy_bool hq
theorem firsts_any {M : Model} : ∀ {vs : List Value} {ds : List PyData}, PySem.W.EachIs (fun v d => ∃ as, Reads s.heap v d as) vs ds → (∀ d ∈ ds, ∃ xs, d = .tuple xs) →
    ∃ gs : List (Option Value), gs.length = vs.length ∧ ((gs.all fun x => x.isSome) = true → ∀ d ∈ ds, ∃ x r, d = .tuple (x :: r)) ∧ ∀ (A : Around) (E : Value → Shared → Prop) (Q : List (Option Value) → Shared → Prop), Q gs s → wpAny M A (vs.mapM firstOfTuple') Q E s
  | _, _, .nil, _ => ⟨[], rfl, (fun _ d hd => nomatch hd), fun A E Q q => by rw [List.mapM_nil]; exact wpAny_pure q⟩
  | _, _, .cons (b := d) ⟨as, r⟩ t, ht => by
    obtain ⟨gs, g1, g2, g3⟩ := firsts_any (M := M) t fun d hd => ht d (List.mem_cons_of_mem _ hd)
    obtain ⟨xs, rfl⟩ := ht d List.mem_cons_self
    cases r with
    | @tuple a o items n _ _ ho hc hd hr =>
      refine ⟨items[0]? :: gs, by rw [List.length_cons, List.length_cons, g1], fun ha d hd' => ?_, fun A E Q q => ?_⟩
      · rw [List.all_cons, Bool.and_eq_true] at ha
        rcases List.mem_cons.mp hd' with rfl | hm
        · have n1 : items.size = xs.length := by simpa using SeqAt.ReadsAll.length _ _ _ hr
          cases xs with
          | nil =>
            have z : items.size = 0 := n1
            have z2 : items[0]? = none := by simp [z]
            rw [z2] at ha
            exact absurd ha.1 (by decide)
          | cons x r => exact ⟨x, r, rfl⟩
        · exact g2 ha.2 d hm
      · rw [List.mapM_cons]
        refine wpAny_bind ?_
        rw [PySem.W.kas_first_eq]
        refine wpAny_bind (PySem.W.Looks.here (show PySem.W.Looks M s.heap (typeOf (.ref a)) o.cls from (PySem.W.Looks.ld ho).andThen .now) ?_)
        rw [hc, if_neg (by first | decide | simp)]
        refine wpAny_bind (listItems_at ho hd (wpAny_pure ?_))
        exact wpAny_bind (g3 A E (fun bs s' => wpAny M A (pure (items[0]? :: bs)) Q E s') (wpAny_pure q))
theorem kind_any {M : Model} {vs : List Value} {ds : List PyData} (h2 : 2 ≤ vs.length) (e : PySem.W.EachIs (fun v d => ∃ as, Reads s.heap v d as) vs ds) (ht : ∀ d ∈ ds, ∃ xs, d = .tuple xs) :
    (∀ d ∈ ds, ∃ x r, d = .tuple (x :: r)) ∨ ∃ kd, (kd = general' ∨ kd = oneType') ∧ ∀ (A : Around) (E : Value → Shared → Prop) {Q : SortKind → Shared → Prop}, Q kd s → wpAny M A (keyKind' vs.toArray) Q E s := by
  obtain ⟨gs, g1, g2, g3⟩ := firsts_any (M := M) e ht
  by_cases ha : (gs.all fun x => x.isSome) = true
  · exact .inl (g2 ha)
  · right
    have hT : ∀ v ∈ vs, PySem.W.Looks M s.heap (typeOf v) (.type "tuple") := fun v hv => by
      obtain ⟨d, hd, as, r⟩ := e.left v hv
      obtain ⟨xs, rfl⟩ := ht d hd
      exact PySem.W.looks_reads r
    by_cases hf : ((gs.toArray[0]?).bind id).isSome = true
    · refine ⟨general', .inl rfl, fun A E Q q => ?_⟩
      rw [kat_kind_eq, List.mapM_toArray, map_eq_pure_bind]
      refine wpAny_bind (wpAny_bind (g3 A E _ (wpAny_pure ?_)))
      rw [if_neg (by simpa using ha), if_pos hf]
      exact wpAny_pure q
    · refine ⟨oneType', .inr rfl, fun A E Q q => ?_⟩
      rw [kat_kind_eq, List.mapM_toArray, map_eq_pure_bind]
      refine wpAny_bind (wpAny_bind (g3 A E _ (wpAny_pure ?_)))
      rw [if_neg (by simpa using ha), if_neg hf]
      rw [oneTypeOnly'_eq, List.mapM_toArray, map_eq_pure_bind]
      refine wpAny_bind (wpAny_bind (wpAny_bind (PySem.W.kas_mapM (r := .type "tuple") _ (fun v hv Q' hq => (hT v hv).here hq) (wpAny_pure ?_))))
      obtain ⟨v₁, v₂, rest, rfl⟩ : ∃ v₁ v₂ rest, vs = v₁ :: v₂ :: rest := by
        match vs, h2 with
        | [], h2 => simp at h2
        | [_], h2 => simp at h2
        | v₁ :: v₂ :: rest, _ => exact ⟨v₁, v₂, rest, rfl⟩
      have hall : ((List.map (fun _ => Value.type "tuple") (v₁ :: v₂ :: rest)).toArray.all fun x => x == Value.type "tuple") = true := by
        simp only [List.all_toArray, List.all_map, List.all_eq_true]
        intro _ _
        exact beq_self_eq_true _
      have h0 : (List.map (fun _ => Value.type "tuple") (v₁ :: v₂ :: rest)).toArray[0]? = some (Value.type "tuple") := by simp
      rw [h0]
      simp only [hall, if_true]
      exact wpAny_pure (wpAny_pure q)
theorem sortsAt_tups {vs : List Value} {ds : List PyData} (e : PySem.W.EachIs (fun v d => ∃ as, Reads s.heap v d as) vs ds) (hal : PySem.W.AllAlike ds) (ht : ∀ d ∈ ds, ∃ xs, d = .tuple xs) (hu : ∀ d, d ∈ ds → A.units + d.depth < cLine) :
    PySem.W.SortsAt prog w A s (PySem.W.dataKind s.heap ds) vs := by
  have room : ∀ {d d' : PyData}, d ∈ ds → A.units + min d.depth d'.depth < cLine := fun {d d'} hd => Nat.lt_of_le_of_lt (Nat.add_le_add_left (Nat.min_le_left _ _) _) (hu d hd)
  have keys : ∀ v, v ∈ vs → ∃ a, (PySem.W.dataKind s.heap ds).keyOf v = some a := fun v hv => by
    obtain ⟨d, hd, as, r⟩ := e.left v hv
    exact ⟨_, PySem.W.dataKind_some hal hd r⟩
  have g : H.LtAt prog w A s (PySem.W.dataKind s.heap ds) general' := fun E x y a b Q ha hb hq => by
    obtain ⟨d, as, hd, ra, rfl⟩ := PySem.W.dataKind_inv ha
    obtain ⟨d', as', hd', rb, rfl⟩ := PySem.W.dataKind_inv hb
    obtain ⟨xs, rfl⟩ := ht d hd
    exact PySem.W.oneLt_alike (f := false) (fun z => nomatch z) ra rb (hal _ hd _ hd') (fun z => nomatch z) (room hd) hq
  have o : H.LtAt prog w A s (PySem.W.dataKind s.heap ds) oneType' := fun E x y a b Q ha hb hq => by
    obtain ⟨d, as, hd, ra, rfl⟩ := PySem.W.dataKind_inv ha
    obtain ⟨d', as', hd', rb, rfl⟩ := PySem.W.dataKind_inv hb
    have hh := hal _ hd _ hd'
    have hr := room (d' := d') hd
    obtain ⟨xs, rfl⟩ := ht d hd
    obtain ⟨ys, rfl⟩ := ht d' hd'
    rw [keyLt'_oneType]
    exact oneLt_tup ra rb (by simpa [PySem.W.alike] using hh) hr hq
  by_cases h2 : 2 ≤ vs.length
  · rcases kind_any (M := model prog w) h2 e ht with h | ⟨kd, hk, h⟩
    · exact PySem.W.SortsAt.data e hal (.inl h) hu
    · refine ⟨keys, kd, ?_, fun _ E Q q => h A E q⟩
      rcases hk with rfl | rfl
      · exact g
      · exact o
  · exact ⟨keys, general', g, fun z => absurd z h2⟩
end
/-! ## lists and sets of int tuples, sorted -/
theorem tupLt (xs ys : List Int) : PySem.W.dataLt (encT xs) (encT ys) = decide (xs < ys) := by
  unfold encT
  rw [PySem.W.dataLt_tuple]
  have e := PySem.W.dataLt_ints xs ys
  unfold PySem.W.rowLt at e
  exact e
def tLe (p q : List Int) : Bool := decide (p ≤ q)
theorem tupLe (p q : Addr × List Int) : PySem.W.dataLe false (fun b : Addr × List Int => encT b.2) p q = tLe p.2 q.2 := by
  show (!PySem.W.dataLt (encT q.2) (encT p.2)) = _
  rw [tupLt]
  unfold tLe
  by_cases h : q.2 < p.2
  · rw [decide_eq_true h, decide_eq_false (fun r => List.not_lt.mpr r h)]
    rfl
  · rw [decide_eq_false h, decide_eq_true (List.not_lt.mp h)]
    rfl
theorem alike_tups (bs : List (Addr × List Int)) : PySem.W.AllAlike (bs.map fun b => encT b.2) := by
  intro d hd d' hd'
  obtain ⟨b, _, rfl⟩ := List.mem_map.mp hd
  obtain ⟨b', _, rfl⟩ := List.mem_map.mp hd'
  simp [encT, PySem.W.alike, PySem.W.alike_ints]
theorem are_tups (bs : List (Addr × List Int)) : ∀ d ∈ bs.map (fun b => encT b.2), ∃ xs, d = PyData.tuple xs := by
  intro d hd
  obtain ⟨b, _, rfl⟩ := List.mem_map.mp hd
  exact ⟨_, rfl⟩
section
variable {X : Cx}
/-- sorted(xs), xs tuples of ints, some of them empty or not -/
def rSortT (K : PySem.W.Frag) : List V → Hp → VK → Prop := fun vs H Q => ∃ (a : Addr) (bs : List (Addr × List Int)), vs = [.ref a] ∧ SqL K H a (bs.map fun b => .ref b.1) ∧ (∀ b ∈ bs, SqT K H b.1 (b.2.map V.int)) ∧ bs.length ≤ 1000000 ∧
  New H (.lst ((bs.mergeSort fun p q => tLe p.2 q.2).map fun b => .ref b.1)) Q
theorem depth_encT {f : List Int} (hu : X.A.units + 64 < cLine) : X.A.in1.in1.units + (encT f).depth < cLine := by
  have h1 := encT_depth f
  have h2 : X.A.in1.in1.units = X.A.units + 2 := rfl
  omega
theorem cr_sortTups (hu : X.A.units + 64 < cLine) : CallR X (.builtin "sorted") (rSortT X.K) := by
  intro pins s σ H vs us Q I r h
  obtain ⟨a, bs, rfl, hq, ht, hz, q⟩ := h
  rw [Vals.ref1 r]
  obtain ⟨its, rv, hl, _⟩ := I.list hq
  have e := each_refs rv
  have hL : its.length ≤ sizeLine := by rw [e.length, sizeLine_eq]; omega
  have er0 : ∀ {bs : List (Addr × List Int)} {its : List Value}, (∀ b ∈ bs, SqT X.K H b.1 (b.2.map V.int)) → PySem.W.EachIs (fun v (b : Addr × List Int) => v = .ref b.1) its bs → PySem.W.EachIs (fun v (b : Addr × List Int) => ∃ as, Reads s.heap v (encT b.2) as) its bs := by
    intro bs its hb e
    induction e with
    | nil => exact .nil
    | cons r1 _ ih => exact .cons (r1 ▸ Dp.reads I _ _ _ (dp_tup (hb _ List.mem_cons_self)) rfl) (ih fun x hx => hb x (List.mem_cons_of_mem _ hx))
  have er := er0 ht e
  have er' : PySem.W.EachIs (fun v (b : Addr × List Int) => ∃ as, Reads (PySem.W.sortingHeap (PySem.W.copyHeap s.heap its) (s.heap.objs.size + 1) its) v (encT b.2) as) its bs := er.mono fun _ _ ⟨as, r⟩ => ⟨as, PyProof.Rows.Reads.keeps (fun _ _ => PySem.W.sorting_copy_old) r⟩
  refine PySem.W.sorted_vals hl.isList (sortsAt_tups (s := { s with heap := PySem.W.sortingHeap (PySem.W.copyHeap s.heap its) (s.heap.objs.size + 1) its })
    (PySem.W.each_map (R := fun v d => ∃ as, Reads (PySem.W.sortingHeap (PySem.W.copyHeap s.heap its) (s.heap.objs.size + 1) its) v d as) (fun b : Addr × List Int => encT b.2) er') (alike_tups bs) (are_tups bs) (fun d hd => ?_)) hL ?_
  · obtain ⟨b, _, rfl⟩ := List.mem_map.mp hd
    exact depth_encT hu
  have eo := PySem.W.sortVals_data false e er' (alike_tups bs)
  generalize PySem.W.sortVals (PySem.W.dataKind (PySem.W.sortingHeap (PySem.W.copyHeap s.heap its) (s.heap.objs.size + 1) its) (bs.map fun b => encT b.2)) false its its = out at eo ⊢
  have e2 : PySem.W.dataLe false (fun b : Addr × List Int => encT b.2) = fun p q => tLe p.2 q.2 := funext fun p => funext fun q => tupLe p q
  rw [e2] at eo
  have hf : H (s.heap.objs.size + 1) = none := I.hok.fresh (Nat.le_succ _)
  refine ⟨.ref (s.heap.objs.size + 1), _, I.laid (t' := s.toks) (fun b o eb => sortedAll_old eb) (Nat.le_succ _) ?_, rfl, q _ hf⟩
  obtain ⟨c, hc⟩ := sortedAll_at s.heap its out.toArray
  exact ⟨by rw [List.length_map, List.length_mergeSort, sizeLine_eq]; omega, out, c, refs_each eo, hc⟩
end
section
variable {P : Program} {w : World} {A : Around} {E : Value → Shared → Prop} {s : Shared}
/-- the addresses stand for the rows of L -/
theorem refs_rows {L : List (Addr × List Int)} : ∀ vs : List Value, (∀ v ∈ vs, ∃ q ∈ L, v = Value.ref q.1) → ∃ L1 : List (Addr × List Int), vs = L1.map (fun q => Value.ref q.1) ∧ ∀ q ∈ L1, q ∈ L
  | [], _ => ⟨[], rfl, fun q hq => nomatch hq⟩
  | v :: vs, hv => by
    obtain ⟨q, hq, e⟩ := hv v List.mem_cons_self
    obtain ⟨L1, e1, hs⟩ := refs_rows vs fun u hu => hv u (List.mem_cons_of_mem _ hu)
    refine ⟨q :: L1, by rw [List.map_cons, e, e1], fun r hr => ?_⟩
    rcases List.mem_cons.mp hr with z | z
    · rw [z]; exact hq
    · exact hs r z
theorem each_rows : ∀ (L : List (Addr × List Int)), PySem.W.EachIs (fun v (b : Addr × List Int) => v = Value.ref b.1) (L.map fun q => Value.ref q.1) L
  | [] => .nil
  | _ :: L => .cons rfl (each_rows L)
theorem rows_each {L : List (Addr × List Int)} : ∀ {vs : List Value}, PySem.W.EachIs (fun v (b : Addr × List Int) => v = Value.ref b.1) vs L → vs = L.map fun q => Value.ref q.1 := by
  intro vs e
  induction e with
  | nil => rfl
  | cons r1 _ ih => rw [r1, ih]; rfl
/-- L in order -/
theorem sort_rows {L L1 : List (Addr × List Int)} (pm : L1.Perm L) (nd : (L.map (·.2)).Nodup) : (L1.mergeSort fun p q => tLe p.2 q.2).Perm L ∧ (L1.mergeSort fun p q => tLe p.2 q.2).Pairwise fun p q => p.2 < q.2 := by
  have p1 : (L1.mergeSort fun p q => tLe p.2 q.2).Perm L := (List.mergeSort_perm _ _).trans pm
  refine ⟨p1, ?_⟩
  have h1 : (L1.mergeSort fun p q => tLe p.2 q.2).Pairwise fun p q => tLe p.2 q.2 = true := List.pairwise_mergeSort (fun a b c h1 h2 => by
    unfold tLe at *
    exact decide_eq_true (List.le_trans (of_decide_eq_true h1) (of_decide_eq_true h2))) (fun a b => by
    unfold tLe
    rcases List.le_total a.2 b.2 with h | h
    · rw [decide_eq_true h]; rfl
    · rw [decide_eq_true h, Bool.or_true]) L1
  have h2 : ((L1.mergeSort fun p q => tLe p.2 q.2).map (·.2)).Nodup := (p1.map (·.2)).nodup_iff.mpr nd
  have h3 := List.pairwise_map.mp h2
  refine (h1.and h3).imp fun {p q} h => ?_
  have h4 : p.2 ≤ q.2 := of_decide_eq_true h.1
  by_cases h5 : p.2 < q.2
  · exact h5
  · exact absurd (List.le_antisymm h4 (List.not_lt.mp h5)) h.2
theorem sorted_setA {a : Addr} {L : List (Addr × List Int)} {es : Array (Int × Value)} {ep : Nat} {t : SetTable} {Q : Value → Shared → Prop} (R : SetTR P w s.heap a L es ep t) (hh : A.handled = none) (hu : A.units + 64 < cLine)
    (hQ : ∀ s' p (out : Array Value) (c : Nat) (L' : List (Addr × List Int)), (∀ b o, s.heap.get? b = some o → s'.heap.get? b = some o) → s'.gens = s.gens → s'.os = s.os → s.heap.objs.size ≤ p →
      s'.heap.get? p = some (seqObj "list" out c) → out.toList = L'.map (fun q => Value.ref q.1) → L'.Perm L → L'.Pairwise (fun q r => q.2 < r.2) → Q (.ref p) s') :
    wpAny (model P w) A (call (.builtin "sorted") [.ref a]) Q E s := by
  obtain ⟨o, ho, hex, hd⟩ := R.ob
  have hsz := R.size
  have hfew := R.few
  refine Calls.call_function_entry kind_sorted plain_sorted entry_sorted (args_sorted1 _) ?_
  unfold Builtin.«sorted»
  refine wpAny_bind (m := checkCount "sorted" 1 1 _) (wpAny_pure ?_)
  refine wpAny_bind (collect_set (A := A.in1) hh ⟨o, ho, hex.1, hd⟩ R.fits (by unfold scanBound; omega) R.tab.ris R.led fun s1 vs k1 hz g1 o1 pm => ?_)
  have hes : es.toList.map (·.2) = L.map fun q => Value.ref q.1 := by
    rw [R.rows]
    unfold rowsOf
    rw [List.map_map] <;> rfl
  rw [hes] at pm
  have one : ∀ q ∈ L, ∀ r ∈ L, q.1 = r.1 → q = r := fun q hq r hr e => by
    have a1 := R.tup q hq
    have a2 := R.tup r hr
    rw [e] at a1
    have e2 : q.2 = r.2 := a1.inj a2
    exact Prod.ext e e2
  have perm_of : ∀ L1 : List (Addr × List Int), (∀ q ∈ L1, q ∈ L) → (L1.map (fun q => Value.ref q.1)).Perm (L.map fun q => Value.ref q.1) → L1.Perm L := by
    intro L1 hs pm1
    have nL : L.Nodup := nodup_of_map R.nd
    have nref : (L.map fun q => Value.ref q.1).Nodup := by
      refine List.pairwise_map.mpr (List.Pairwise.imp_of_mem (fun {q r} hq hr hne e => ?_) nL)
      injection e with e
      exact hne (one q hq r hr e)
    have n1 : L1.Nodup := nodup_of_map (pm1.nodup_iff.mpr nref)
    refine (List.perm_ext_iff_of_nodup n1 nL).mpr fun q => ⟨hs q, fun hq => ?_⟩
    have hm : Value.ref q.1 ∈ L1.map (fun q => Value.ref q.1) := pm1.mem_iff.mpr (List.mem_map.mpr ⟨q, hq, rfl⟩)
    obtain ⟨r, hr, e⟩ := List.mem_map.mp hm
    injection e with e
    rw [← one r (hs r hr) q hq e]
    exact hr
  have hvl : vs.length < 64 := by rw [pm.length_eq, List.length_map]; exact hfew
  obtain ⟨L1, hv1, hs1⟩ := refs_rows (L := L) vs fun v hv => by
    obtain ⟨q, hq, e⟩ := List.mem_map.mp (pm.mem_iff.mp hv)
    exact ⟨q, hq, e.symm⟩
  have pL1 : L1.Perm L := perm_of L1 hs1 (by rw [← hv1]; exact pm)
  refine wpAny_bind (wpAny_newList ?_ (by rw [sizeLine_eq]; omega))
  have hoL : (s1.heap.push (seqObj "list" vs.toArray 0)).get? s1.heap.objs.size = some (seqObj "list" vs.toArray 0) := Heap.get?_push_size _ rfl
  have er : ∀ L2 : List (Addr × List Int), (∀ q ∈ L2, q ∈ L) → PySem.W.EachIs (fun v (b : Addr × List Int) => ∃ as, Reads (PySem.W.sortingHeap (s1.heap.push (seqObj "list" vs.toArray 0)) s1.heap.objs.size vs) v (encT b.2) as) (L2.map fun q => Value.ref q.1) L2 := by
    intro L2
    induction L2 with
    | nil => intro _; exact .nil
    | cons q L2 ih =>
      intro h
      refine .cons ?_ (ih fun x hx => h x (List.mem_cons_of_mem _ hx))
      obtain ⟨o', items, n', ho', hc', hd', hi'⟩ := R.tup q (h q List.mem_cons_self)
      have hlt := Heap.lt_size (k1 _ _ ho')
      have h2 : (PySem.W.sortingHeap (s1.heap.push (seqObj "list" vs.toArray 0)) s1.heap.objs.size vs).get? q.1 = some o' := PySem.W.sortingHeap_old (Nat.ne_of_lt hlt) (Heap.get?_push_of_some _ (k1 _ _ ho'))
      exact ⟨_, Reads.tuple h2 hc' hd' (PyProof.Rows.IntsAre.reads _ (ints_of_items hi'))⟩
  have er1 := er L1 hs1
  rw [← hv1] at er1
  have e1 : PySem.W.EachIs (fun v (b : Addr × List Int) => v = Value.ref b.1) vs L1 := by rw [hv1]; exact each_rows L1
  have S := sortsAt_tups (prog := P) (w := w) (A := A.in1.in1) (s := { s1 with heap := PySem.W.sortingHeap (s1.heap.push (seqObj "list" vs.toArray 0)) s1.heap.objs.size vs })
    (PySem.W.each_map (R := fun v d => ∃ as, Reads (PySem.W.sortingHeap (s1.heap.push (seqObj "list" vs.toArray 0)) s1.heap.objs.size vs) v d as) (fun b : Addr × List Int => encT b.2) er1) (alike_tups L1) (are_tups L1) (fun d hd => by
      obtain ⟨b, _, rfl⟩ := List.mem_map.mp hd
      have h1 := encT_depth b.2
      have h2 : A.in1.in1.units = A.units + 2 := rfl
      omega)
  have eo := PySem.W.sortVals_data false e1 er1 (alike_tups L1)
  refine wpAny_bind (wpAny_holding (wpAny_call_entry slot_list_sort ⟨_, hoL, rfl⟩ entry_list_sort (PySem.W.list_sort_vals (s := { s1 with heap := s1.heap.push (seqObj "list" vs.toArray 0) }) hoL S (by rw [sizeLine_eq]; omega) ⟨.none, rfl, ?_⟩) (args_list_sort _)))
  generalize PySem.W.sortVals (PySem.W.dataKind (PySem.W.sortingHeap (s1.heap.push (seqObj "list" vs.toArray 0)) s1.heap.objs.size vs) (L1.map fun b => encT b.2)) false vs vs = out at eo ⊢
  have e2 : PySem.W.dataLe false (fun b : Addr × List Int => encT b.2) = fun p q => tLe p.2 q.2 := funext fun p => funext fun q => tupLe p q
  rw [e2] at eo
  obtain ⟨c, hc⟩ := sortedHeap_at (vs := vs) (out := out.toArray) hoL
  obtain ⟨q1, q2⟩ := sort_rows pL1 R.nd
  refine wpAny_pure ⟨_, rfl, hQ _ s1.heap.objs.size out.toArray c _ (fun b u e => ?_) g1 o1 hz hc (rows_each eo) q1 q2⟩
  have q := k1 b u e
  have hlt := Heap.lt_size q
  show (sortedHeap (s1.heap.push (seqObj "list" vs.toArray 0)) s1.heap.objs.size vs out.toArray).get? b = some u
  rw [sortedHeap_old (Nat.ne_of_lt hlt) (by rw [size_push']; exact Nat.lt_succ_of_lt hlt)]
  exact Heap.get?_push_of_some _ q
end
section
variable {X : Cx}
/-- sorted(set), a set of int tuples -/
def rSortSetT (K : PySem.W.Frag) (P : Program) (w : World) : List V → Hp → VK → Prop := fun vs H Q => ∃ (a : Addr) (L : List (Addr × List Int)), vs = [V.ref a] ∧ H a = some (SetTO P w a L) ∧ (∀ p ∈ L, SqT K H p.1 (p.2.map V.int)) ∧
  ∀ (L' : List (Addr × List Int)) (p : Addr), L'.Perm L → L'.Pairwise (fun q r => q.2 < r.2) → L'.length < 64 → H p = none → Q (.ref p) (upd H p (.lst (L'.map fun q => V.ref q.1)))
theorem cr_sortSetT (hc : X.calm = true) (hu : X.A.units + 64 < cLine) : CallR X (.builtin "sorted") (rSortSetT X.K X.prog X.w) := by
  intro pins s σ H vs us Q I r h
  obtain ⟨a, L, rfl, ha, hk, q⟩ := h
  have R0 : SetT0 X.prog X.w s.heap a L := (I.hok a _ ha).1
  obtain ⟨es, ep, t, R⟩ := R0.full fun p hp => I.isT (hk p hp)
  rw [Vals.ref1 r]
  refine sorted_setA R (I.ok.hd hc) hu fun s' p out c L' k g o hp hg hout pm pw => ?_
  have hfew : L'.length < 64 := by rw [pm.length_eq]; exact R.few
  have hlen : (L'.map fun q => V.ref q.1).length ≤ sizeLine := by rw [List.length_map, sizeLine_eq]; omega
  have hn : H p = none := I.hok.fresh hp
  have hv : Vals (L'.map fun q => V.ref q.1) out.toList := by rw [hout]; exact vals_of_refs L'
  have J : Inv X pins σ (upd H p (.lst (L'.map fun q => V.ref q.1))) { s with heap := s'.heap, gens := s'.gens, drawn := s'.drawn, toks := s'.toks } :=
    I.call (ch := []) (Un.laid k hp hn) (I.hok.laid k hp ⟨hlen, out.toList, c, hv, hg⟩) (by rw [g]; exact I.bare) (fun _ z => nomatch z)
  have e : s' = { s with heap := s'.heap, gens := s'.gens, drawn := s'.drawn, toks := s'.toks } := by
    cases s'
    cases s
    cases o
    rfl
  rw [e]
  exact ⟨.ref p, _, J, rfl, q L' p pm pw hfew hn⟩
end
section
variable {P : Program} {w : World} {A : Around} {E : Value → Shared → Prop} {s : Shared}
/-- set.__init__ of a new set at the heap's end, from a list of ints -/
theorem init_tup {l : Addr} {items : Array Value} (ns : List Int) {B : Around} (hh : B.in1.in1.handled = none) (hl : s.heap.IsTuple l items) (hit : IntsAre items.toList ns) (hb : ns.length + 1 < scanBound) {R : PySem.Fin → Shared → Prop} {F' : Value → Shared → Prop}
    (h : ∀ (h' : Heap) (tk c : Nat), SetR w h' s.heap.objs.size (fun j => decide (j ∈ ns)) c → c ≤ ns.length → (∀ b o, s.heap.get? b = some o → h'.get? b = some o) → R (.done (.ret .none)) { s with heap := h', toks := tk }) :
    wpAny (model P w) B.in1 (Builtin.«set.__init__» ⟨[.ref s.heap.objs.size, .ref l], []⟩) R F' { s with heap := s.heap.push (noSet w) } := by
  have hisz : items.size = ns.length := (Array.length_toList (xs := items)).symm.trans (IntsAre.length hit)
  have hS : (s.heap.push (noSet w)).get? s.heap.objs.size = some (noSet w) := Heap.get?_push_size _ rfl
  obtain ⟨⟨ocls, odict, odata, oslots⟩, hol, hcl, nl, hdl⟩ := hl
  obtain rfl : ocls = .type "tuple" := hcl
  obtain rfl : odata = .seq items nl := hdl
  have hol' : (s.heap.push (noSet w)).get? l = some { cls := .type "tuple", dict := odict, data := .seq items nl, slots := oslots } := Heap.get?_push_of_some _ hol
  have hsls := F.sub_tuple_set
  have hslf := F.sub_tuple_frozenset
  have hne : (Value.type "tuple" == Value.type "dict") = false := by decide
  have hl1 : (s.heap.push (noSet w)).IsTuple l items := ⟨_, hol', rfl, nl, rfl⟩
  unfold Builtin.«set.__init__» noKeywords Builtin.Frozenset.updateFrom
  generalize hPI : pyIter = PI
  wp_walk
  subst hPI
  refine wpAny_pyIter_tuple hl1 (wpAny_bind (wpAny_runValue ?_))
  have hlS : l < s.heap.objs.size := Heap.lt_size hol
  have size1 : (s.heap.push (noSet w)).objs.size = s.heap.objs.size + 1 := Heap.size_push ..
  have apart : ∀ b, b < s.heap.objs.size → b ≠ (s.heap.push (noSet w)).objs.size := fun b hb z => by
    rw [size1] at z
    omega
  have hval : ∀ (i : Nat) (v : Value), items[i]? = some v → ∃ k t, ns[i]? = some k ∧ v = .int k t := fun i v hv => by
    have hi : i < ns.length := hisz ▸ (Array.getElem?_eq_some_iff.mp hv).1
    obtain ⟨t, e⟩ := PyProof.Rows.IntsAre.int_at hit i v (by rw [Array.getElem?_toList]; exact hv)
    exact ⟨ns[i], t, List.getElem?_eq_getElem hi, by rw [e, List.getD_eq_getElem?_getD, List.getElem?_eq_getElem hi] <;> rfl⟩
  refine set_update_ints ((Walks.tuple hh _ l (apart l hlS) items).toS) s.heap.objs.size (fun z => ?_) ns hisz hb hval (items.size - 0) 0 _ (by omega) (Nat.zero_le _)
    ⟨⟨_, Heap.get?_push_size _ rfl, rfl, rfl⟩, hl1.push _⟩ ⟨0, Nat.le_refl 0, setR_new_at (Heap.get?_push_of_some _ hS)⟩ fun s' c hm hc hS' => ?_
  · rcases List.mem_cons.mp z with z | z
    · rw [size1] at z
      exact absurd z (Nat.ne_of_lt (Nat.lt_succ_self _))
    · exact absurd (List.mem_singleton.mp z) (Nat.ne_of_gt hlS)
  · obtain ⟨h', g2, d', tk', os'⟩ := s'
    obtain rfl : g2 = s.gens := hm.gens
    obtain rfl : d' = s.drawn := hm.drawn
    obtain rfl : os' = s.os := hm.os
    refine wpAny_pure (wpAny_pure (h h' tk' c hS' (hisz ▸ hc) fun b o e => ?_))
    have hb0 : b < s.heap.objs.size := Heap.lt_size e
    refine hm.heap b o (fun z => ?_) (Heap.get?_push_of_some _ (Heap.get?_push_of_some _ e))
    rcases List.mem_cons.mp z with z | z
    · exact absurd z (Nat.ne_of_lt hb0)
    · exact apart b hb0 (List.mem_singleton.mp z)
/-- set(xs) -/
theorem set_of_tup {l : Addr} {items : Array Value} (ns : List Int) {Q : Value → Shared → Prop} (hh : A.handled = none) (hl : s.heap.IsTuple l items) (hit : IntsAre items.toList ns) (hb : ns.length + 1 < scanBound)
    (h : ∀ (h' : Heap) (tk c : Nat), SetR w h' s.heap.objs.size (fun j => decide (j ∈ ns)) c → c ≤ ns.length → (∀ b o, s.heap.get? b = some o → h'.get? b = some o) → Q (.ref s.heap.objs.size) { s with heap := h', toks := tk }) :
    wpAny (model P w) A (call (.type "set") [.ref l]) Q E s := by
  obtain ⟨c, tl, hmro⟩ := F.called_set.mro
  have hmade := F.called_set.made
  have hsub := F.called_set.sub
  refine wpAny_call (codeAny_of_tree ?_)
  show wpAny _ _ (callAny (.type "set") _) _ _ _
  refine wpAny_pure ⟨Code.quiet_builtin _ (by decide +kernel), codeAny_builtin F.entry_type_call ?_⟩
  rw [Around.under_plain (weight_type_call_type "set" [.ref l] []) rfl]
  have h1 := F.called_set.notType
  have h2 := F.called_set.canCreate
  have hct := F.typeCall_set_1 (.ref l)
  repeat (any_goals (first | assumption | wp_step))
  refine codeAny_mono (code_set_led1 (.ref l) (E := E) (Q₁ := fun obj s₁ => obj = .ref s.heap.objs.size ∧ s₁ = { s with heap := s.heap.push (noSet w) }) ⟨rfl, rfl⟩) fun r s₁ hr => ?_
  match r, hr with
  | .error e, hr => exact hr
  | .ok .next, hr => exact False.elim hr
  | .ok .brk, hr => exact False.elim hr
  | .ok .cont, hr => exact False.elim hr
  | .ok (.ret obj), hr =>
    obtain ⟨rfl, rfl⟩ := hr
    have hS : (s.heap.push (noSet w)).get? s.heap.objs.size = some (noSet w) := Heap.get?_push_size _ rfl
    have hT : Shared.TypeIs { s with heap := s.heap.push (noSet w) } (.ref s.heap.objs.size) "set" := ⟨_, hS, rfl⟩
    have hli := F.called_set.init.lookup
    have hbi := F.called_set.init.bind (.ref s.heap.objs.size)
    repeat (any_goals (first | assumption | wp_step))
    refine codeAny_mono (codeAny_call_builtin (R := wants (fun r s₂ => r = .none ∧ ∃ h' tk c, s₂ = { s with heap := h', toks := tk } ∧ SetR w h' s.heap.objs.size (fun j => decide (j ∈ ns)) c ∧ c ≤ ns.length ∧ (∀ b o, s.heap.get? b = some o → h'.get? b = some o)) E)
      F.called_set.init.plain F.entry_set_init (check_set_init_1 hT (init_tup ns (by simp [hh]) hl hit hb fun h' tk c a1 a2 a3 => ⟨rfl, h', tk, c, rfl, a1, a2, a3⟩))) fun r₂ s₂ hr₂ => ?_
    match r₂, hr₂ with
    | .error e, hr => exact hr
    | .ok .next, hr => exact False.elim hr
    | .ok .brk, hr => exact False.elim hr
    | .ok .cont, hr => exact False.elim hr
    | .ok (.ret r), ⟨e, h', tk, c, e2, a1, a2, a3⟩ =>
      subst e e2
      repeat (any_goals (first | assumption | wp_step))
      exact h _ _ _ a1 a2 a3
end
section
variable {X : Cx}
/-- set(xs), xs a list or a tuple of ints -/
def rSetS (K : PySem.W.Frag) (w : World) : List V → Hp → VK → Prop := fun vs H Q => ∃ (l : Addr) (ns : List Int), vs = [.ref l] ∧ (SqL K H l (ns.map V.int) ∨ SqT K H l (ns.map V.int)) ∧ ns.length ≤ 1000 ∧ ∀ p c, c ≤ ns.length → H p = none → Q (.ref p) (upd H p (SetO w p (fun j => decide (j ∈ ns)) c))
theorem cr_setS (hc : X.calm = true) : CallR X (.type "set") (rSetS X.K X.w) := by
  intro pins s σ H vs us Q I r h
  obtain ⟨l, ns, rfl, hq, hz, q⟩ := h
  rcases hq with hq | hq
  · exact cr_setI hc pins s σ H _ us Q I r ⟨l, ns, rfl, hq, hz, q⟩
  rw [Vals.ref1 r]
  obtain ⟨its, rv, hl, _⟩ := I.tuple hq
  refine set_of_tup ns (I.ok.hd hc) hl (by simpa using intsAre_of rv) (Nat.lt_of_le_of_lt (Nat.succ_le_succ hz) (by decide)) fun h' tk c a1 a2 a3 => ?_
  exact ⟨.ref s.heap.objs.size, upd H s.heap.objs.size (SetO X.w s.heap.objs.size (fun j => decide (j ∈ ns)) c), I.laid (t' := tk) a3 (Nat.le_refl _) (setO_new a1), rfl, q _ c a2 (I.hok.fresh (Nat.le_refl _))⟩
end
theorem units65 {k : Nat} {A : PySem.Around} (r : Room k A) : A.units + 65 < PySem.cLine := by have := r.un; omega
/-- a list or a tuple, walked -/
def iSeq (K : PySem.W.Frag) (te : TE) : TI := fun σ H R => iList K te σ H R ∨ iTup K te σ H R
theorem pi_seq {X : Cx} {tg l : Expr} {tl : TE} (hl : PE X l tl) : PI X tg l (iSeq X.K tl) :=
  ⟨fun pins s σ H R I h => h.elim ((pi_list hl).run pins s σ H R I) ((pi_tup hl).run pins s σ H R I)⟩
section
variable {K : PySem.W.Frag} {H H' : Hp} {Q : VK} {a b l p t : Addr} {xs ys : List V} {S : List Addr} {ns ms : List Int} {c i : Int} {w : World} {P : Program} {σ : L2.St} {te : TE}
/-! ### in -/
theorem inV_int (c : Int) : ∀ ns : List Int, inV (.int c) (ns.map V.int) = decide (c ∈ ns)
  | [] => by simp [inV]
  | n :: ns => by
    have e : eqV (.int n) (.int c) = decide (n = c) := by rw [Bool.eq_iff_iff]; simp [eqV]
    have ih := inV_int c ns
    unfold inV at ih ⊢
    rw [List.map_cons, List.any_cons, ih, e]
    by_cases h : n = c
    · subst h
      simp
    · have h2 : ¬ c = n := fun z => h z.symm
      simp [h, h2]
theorem flat_ints (ns : List Int) : (ns.map V.int).all flatV = true := by
  rw [List.all_map, List.all_eq_true]
  intro _ _
  rfl
theorem w_inT (h : SqT K H p (ns.map V.int)) (q : Q (.bl (decide (c ∈ ns))) H) : rIn K false (.int c) (.ref p) H Q := ⟨p, _, rfl, .inr h, rfl, flat_ints ns, by
  rw [if_neg (by decide), inV_int]
  exact q⟩
theorem w_ninT (h : SqT K H p (ns.map V.int)) (q : Q (.bl (!decide (c ∈ ns))) H) : rIn K true (.int c) (.ref p) H Q := ⟨p, _, rfl, .inr h, rfl, flat_ints ns, by
  rw [if_pos rfl, inV_int]
  exact q⟩
/-! ### ==, != of lists and tuples of ints -/
theorem lay_ints : ∀ ns : List Int, PyData.canLayAll0 (ns.map PyData.int) = true
  | [] => by simp [PyData.canLayAll0]
  | n :: ns => by simp [PyData.canLayAll0, PyData.canLay0, lay_ints ns]
theorem shaped_tup (ns : List Int) : SeqAt.shaped (encT ns) = true := by
  unfold SeqAt.shaped
  rw [Bool.and_eq_true]
  refine ⟨?_, decide_eq_true (Nat.le_trans (encT_depth ns) (by decide))⟩
  unfold encT PyData.canLay0
  exact lay_ints ns
theorem encL_depth (ns : List Int) : (PyData.list (ns.map .int)).depth ≤ 1 := by
  simp only [PyData.depth, PySem.W.depth_ints]
  decide
theorem shaped_list (ns : List Int) : SeqAt.shaped (.list (ns.map .int)) = true := by
  unfold SeqAt.shaped
  rw [Bool.and_eq_true]
  refine ⟨?_, decide_eq_true (Nat.le_trans (encL_depth ns) (by decide))⟩
  unfold PyData.canLay0
  exact lay_ints ns
theorem eqv_list : ∀ xs ys : List Int, PyData.eqv (.list (xs.map .int)) (.list (ys.map .int)) = decide (xs = ys) := fun xs ys => by
  have h := eqv_ints xs ys
  simp only [PyData.eqv] at h ⊢
  exact h
theorem dp_intsL (K : PySem.W.Frag) (H : Hp) : ∀ ns : List Int, DpAll K H (ns.map V.int) (ns.map PyData.int)
  | [] => .nil
  | n :: ns => .cons (.int n) (dp_intsL K H ns)
theorem dp_lst (h : SqL K H l (ns.map V.int)) : Dp K H (.ref l) (.list (ns.map PyData.int)) := .lst h (dp_intsL K H ns)
theorem w_neT (h1 : SqT K H a (ns.map V.int)) (h2 : SqT K H b (ms.map V.int)) (q : Q (.bl (!decide (ns = ms))) H) : rNeD K (.ref a) (.ref b) H Q := ⟨_, _, dp_tup h1, dp_tup h2, shaped_tup ns, shaped_tup ms, by rw [eqv_ints]; exact q⟩
theorem w_neL (h1 : SqL K H a (ns.map V.int)) (h2 : SqL K H b (ms.map V.int)) (q : Q (.bl (!decide (ns = ms))) H) : rNeD K (.ref a) (.ref b) H Q := ⟨_, _, dp_lst h1, dp_lst h2, shaped_list ns, shaped_list ms, by rw [eqv_list]; exact q⟩
theorem w_eqL (h1 : SqL K H a (ns.map V.int)) (h2 : SqL K H b (ms.map V.int)) (q : Q (.bl (decide (ns = ms))) H) : rEqD K (.ref a) (.ref b) H Q := ⟨_, _, dp_lst h1, dp_lst h2, shaped_list ns, shaped_list ms, by rw [eqv_list]; exact q⟩
theorem w_eqT (h1 : SqT K H a (ns.map V.int)) (h2 : SqT K H b (ms.map V.int)) (q : Q (.bl (decide (ns = ms))) H) : rEqD K (.ref a) (.ref b) H Q := ⟨_, _, dp_tup h1, dp_tup h2, shaped_tup ns, shaped_tup ms, by rw [eqv_ints]; exact q⟩
/-! ### a tuple in a list of tuples -/
theorem any_eqv (fs : List (List Int)) (f : List Int) : ((fs.map encT).any fun z => PyData.eqv z (encT f)) = decide (f ∈ fs) := by
  induction fs with
  | nil => simp
  | cons g fs ih =>
    rw [List.map_cons, List.any_cons, ih]
    unfold encT
    rw [eqv_ints]
    by_cases h : g = f
    · subst h
      simp
    · have h2 : ¬ f = g := fun z => h z.symm
      simp [h, h2]
theorem lay_tups : ∀ fs : List (List Int), PyData.canLayAll0 (fs.map encT) = true
  | [] => by simp [PyData.canLayAll0]
  | f :: fs => by
    simp only [List.map_cons, PyData.canLayAll0, lay_tups fs, Bool.and_true]
    unfold encT PyData.canLay0
    exact lay_ints f
theorem shaped_tups (fs : List (List Int)) : SeqAt.shaped (.list (fs.map encT)) = true := by
  unfold SeqAt.shaped
  rw [Bool.and_eq_true]
  refine ⟨?_, decide_eq_true ?_⟩
  · unfold PyData.canLay0
    exact lay_tups fs
  · have := depthAll_le (m := 1) (xs := fs.map encT) fun x hx => by
      obtain ⟨f, _, rfl⟩ := List.mem_map.mp hx
      exact encT_depth f
    simp only [PyData.depth]
    omega
theorem w_ninD {fs : List (List Int)} (h1 : SqT K H t (ns.map V.int)) (h2 : LT K H l fs) (q : Q (.bl (!decide (ns ∈ fs))) H) : rNotInD K (.ref t) (.ref l) H Q := ⟨_, _, dp_tup h1, h2.dp, shaped_tup ns, shaped_tups fs, by
  rw [show (PyData.tuple (ns.map .int)) = encT ns from rfl, any_eqv]
  exact q⟩
theorem w_inD {fs : List (List Int)} (h1 : SqT K H t (ns.map V.int)) (h2 : LT K H l fs) (q : Q (.bl (decide (ns ∈ fs))) H) : rInD K (.ref t) (.ref l) H Q := ⟨_, _, dp_tup h1, h2.dp, shaped_tup ns, shaped_tups fs, by
  rw [show (PyData.tuple (ns.map .int)) = encT ns from rfl, any_eqv]
  exact q⟩
/-! ### lists: pop, max, ranges, reversal -/
theorem w_popAt {k : Nat} {y : V} (h : H l = some (.lst xs)) (e : i = (k : Int)) (hk : k < 1000000) (hy : xs[k]? = some y) (q : ∀ H', Ch [l] H H' → H' l = some (.lst (xs.eraseIdx k)) → Q y H') : rPopAt (.ref l) [.int i] H Q := by
  subst e
  have hl : k < xs.length := (List.getElem?_eq_some_iff.mp hy).1
  refine ⟨l, xs, _, k, y, rfl, rfl, h, by omega, by omega, ?_, hy, q _ (.put h) upd_same⟩
  unfold seqIndex?
  simp only [show ¬ ((k : Int) < 0) by omega, if_false]
  rw [if_pos (by simp; omega)]
  rfl
theorem w_max (h : SqL K H l (ns.map V.int)) (h0 : 0 < ns.length) (q : ∀ m, m ∈ ns → (∀ y ∈ ns, y ≤ m) → Q (.int m) H) : rMax K [.ref l] H Q := ⟨l, ns, rfl, h, h0, q⟩
/-- 0, 1, .. below n -/
def upto (n : Nat) : List Int := (List.range n).map fun (k : Nat) => (k : Int)
theorem rgV_upto (n : Nat) : rgV 0 (n : Int) = (upto n).map V.int := by
  unfold rgV upto
  rw [show ((n : Int) - 0).toNat = n by omega, List.map_map]
  refine List.map_congr_left fun k _ => ?_
  show V.int (0 + (k : Int)) = V.int (k : Int)
  rw [Int.zero_add]
def RgL (x : V) (H : Hp) (Q : VK) : Prop := ∃ n, x = .int n ∧ RgOk 0 n ∧ ∀ q, H q = none → Q (.ref q) (upd H q (.lst (rgV 0 n)))
def RgT (x : V) (H : Hp) (Q : VK) : Prop := ∃ n, x = .int n ∧ RgOk 0 n ∧ ∀ q, H q = none → Q (.ref q) (upd H q (.tup (rgV 0 n)))
theorem w_lstRg (h : te σ H fun x H1 => RgL x H1 Q) : tLstRg (tRg1 te) σ H Q := h
theorem w_tupRg (h : te σ H fun x H1 => RgT x H1 Q) : tTupRg (tRg1 te) σ H Q := h
theorem w_rgL {n : Nat} (e : i = (n : Int)) (hn : n ≤ 1000000) (q : ∀ p H', H p = none → Ch [] H H' → H' p = some (.lst ((upto n).map V.int)) → Q (.ref p) H') : RgL (.int i) H Q := by
  subst e
  refine ⟨_, rfl, .of_le (by decide) (by omega) (by decide) (by omega), fun p hp => ?_⟩
  rw [rgV_upto]
  exact q p _ hp (.new hp) upd_same
theorem w_rgT {n : Nat} (e : i = (n : Int)) (hn : n ≤ 1000000) (q : ∀ p H', Ch [] H H' → SqT K H' p ((upto n).map V.int) → Q (.ref p) H') : RgT (.int i) H Q := by
  subst e
  refine ⟨_, rfl, .of_le (by decide) (by omega) (by decide) (by omega), fun p hp => ?_⟩
  rw [rgV_upto]
  exact q p _ (.new hp) (sqt_new upd_same)
def RevGo (K : PySem.W.Frag) (x : V) (H : Hp) (Q : VK) : Prop := ∃ a xs, x = .ref a ∧ SqL K H a xs ∧ ∀ p, H p = none → Q (.ref p) (upd H p (.lst xs.reverse))
theorem w_revL (h : te σ H fun x H1 => RevGo K x H1 Q) : tRevL K te σ H Q := h
theorem w_revGo (h : SqL K H a xs) (q : ∀ p H', H p = none → Ch [] H H' → H' p = some (.lst xs.reverse) → Q (.ref p) H') : RevGo K (.ref a) H Q := ⟨a, xs, rfl, h, fun p hp => q p _ hp (.new hp) upd_same⟩
theorem w_isB {x y : Bool} (q : Q (.bl (decide (x = y))) H) : rIsB (.bl x) (.bl y) H Q := ⟨x, y, rfl, rfl, q⟩
theorem w_notB {x y : Bool} (q : Q (.bl (!decide (x = y))) H) : rNotB (.bl x) (.bl y) H Q := ⟨x, y, rfl, rfl, q⟩
theorem w_isiB {x : Bool} (q : Q (.bl true) H) : rIsi K [.bl x, .ty "bool"] H Q := ⟨_, _, _, _, true, rfl, .ty "bool", .base (.bl x), by simp [PySem.W.kitOne], q⟩
theorem w_neB {x y : Bool} (q : Q (.bl (!decide (x = y))) H) : rNe (.bl x) (.bl y) H Q := ⟨rfl, by rw [show decide (V.bl x = V.bl y) = decide (x = y) by simp]; exact q⟩
/-! ### sets -/
theorem w_setSL (h : SqL K H l (ns.map V.int)) (hz : ns.length ≤ 1000) (q : ∀ p c H', c ≤ ns.length → H p = none → Ch [] H H' → H' p = some (SetO w p (fun j => decide (j ∈ ns)) c) → Q (.ref p) H') : rSetS K w [.ref l] H Q :=
  ⟨l, ns, rfl, .inl h, hz, fun p c hc hp => q p c _ hc hp (.new hp) upd_same⟩
theorem w_setST (h : SqT K H l (ns.map V.int)) (hz : ns.length ≤ 1000) (q : ∀ p c H', c ≤ ns.length → H p = none → Ch [] H H' → H' p = some (SetO w p (fun j => decide (j ∈ ns)) c) → Q (.ref p) H') : rSetS K w [.ref l] H Q :=
  ⟨l, ns, rfl, .inr h, hz, fun p c hc hp => q p c _ hc hp (.new hp) upd_same⟩
theorem w_setOfT {ks : List (Addr × List Int)} (h : SqL K H l (ks.map fun p => V.ref p.1)) (ht : ∀ p ∈ ks, SqT K H p.1 (p.2.map V.int)) (hz : ks.length < 64)
    (q : ∀ a L H', H a = none → (∀ p ∈ L, p ∈ ks) → (∀ p ∈ ks, p.2 ∈ L.map (·.2)) → Ch [] H H' → H' a = some (SetTO P w a L) → Q (.ref a) H') : rSetOfT K P w [.ref l] H Q :=
  ⟨l, ks, rfl, h, ht, hz, fun a L ha h1 h2 => q a L _ ha h1 h2 (.new ha) upd_same⟩
/-- sorted(set(xs)): rising, each once -/
theorem w_sortSetT {L : List (Addr × List Int)} (h : H a = some (SetTO P w a L)) (ht : ∀ p ∈ L, SqT K H p.1 (p.2.map V.int))
    (q : ∀ l fs H', H l = none → Ch [] H H' → fs.Pairwise (· < ·) → fs.length < 64 → (∀ f, f ∈ fs ↔ f ∈ L.map (·.2)) → LT K H' l fs → Q (.ref l) H') : rSortSetT K P w [.ref a] H Q := by
  refine ⟨a, L, rfl, h, ht, fun L' p pm pw hf hp => q p (L'.map (·.2)) _ hp (.new hp) (List.pairwise_map.mpr pw) (by rw [List.length_map]; exact hf) (fun f => (pm.map (·.2)).mem_iff) ⟨L', upd_same, fun b hb => ?_, rfl⟩⟩
  exact (Ch.new (S := []) hp).sqt (ht b (pm.mem_iff.mp hb))
/-- sorted(xs), xs tuples -/
theorem w_sortT {fs : List (List Int)} (h : LT K H a fs) (hz : fs.length ≤ 1000000) (q : ∀ l H', H l = none → Ch [] H H' → LT K H' l (fs.mergeSort tLe) → Q (.ref l) H') : rSortT K [.ref a] H Q := by
  obtain ⟨bs, e, ht, rfl⟩ := h
  rw [List.length_map] at hz
  refine ⟨a, bs, rfl, SqL.of e, ht, hz, w_new fun l H' hn c e' => q l H' hn c ⟨_, e', fun b hb => c.sqt (ht b (List.mem_mergeSort.mp hb)), ?_⟩⟩
  exact PySem.W.sort_maps (r := fun p q : Addr × List Int => tLe p.2 q.2) (s := tLe) (·.2) fun _ _ _ _ => rfl
/-! ### shapes: tuples of tuples of ints -/
def Shp (K : PySem.W.Frag) (H : Hp) (t : Addr) (ps : List (List Int)) : Prop := ∃ bs : List (Addr × List Int), SqT K H t (bs.map fun b => .ref b.1) ∧ (∀ b ∈ bs, SqT K H b.1 (b.2.map V.int)) ∧ bs.map (·.2) = ps
theorem Shp.keep {ps : List (List Int)} (h : Shp K H t ps) (c : Ch S H H') : Shp K H' t ps := let ⟨bs, h1, h2, h3⟩ := h; ⟨bs, c.sqt h1, c.sqts h2, h3⟩
theorem LT.lst {fs : List (List Int)} (h : LT K H l fs) : ∃ xs, H l = some (.lst xs) := let ⟨_, e, _⟩ := h; ⟨_, e⟩
theorem LT.ne {fs : List (List Int)} (h : LT K H l fs) (n : H p = none) : l ≠ p := let ⟨_, e, _⟩ := h; ne_new e n
/-- a piece of a shape -/
theorem w_ixShp {ps : List (List Int)} {k : Nat} (h : Shp K H t ps) (e : i = (k : Int)) (hk : k < ps.length) (q : ∀ u, SqT K H u ((ps.getD k []).map V.int) → Q (.ref u) H) : rIxT K (.ref t) (.int i) H Q := by
  obtain ⟨bs, h1, h2, rfl⟩ := h
  subst e
  rw [List.length_map] at hk
  refine w_ixT (v := .ref bs[k].1) h1 (atI_nat (by rw [List.getElem?_map, List.getElem?_eq_getElem hk]; rfl)) (q _ ?_)
  have := h2 bs[k] (List.getElem_mem hk)
  rwa [show (bs.map (·.2)).getD k [] = bs[k].2 by rw [List.getD_eq_getElem?_getD, List.getElem?_map, List.getElem?_eq_getElem hk]; rfl]
theorem w_ixLT {ps : List (List Int)} {k : Nat} (h : LT K H t ps) (e : i = (k : Int)) (hk : k < ps.length) (q : ∀ u, SqT K H u ((ps.getD k []).map V.int) → Q (.ref u) H) : rIxL K (.ref t) (.int i) H Q := by
  obtain ⟨bs, h1, h2, rfl⟩ := h
  subst e
  rw [List.length_map] at hk
  refine w_ixL (v := .ref bs[k].1) (SqL.of h1) (atI_nat (by rw [List.getElem?_map, List.getElem?_eq_getElem hk]; rfl)) (q _ ?_)
  have := h2 bs[k] (List.getElem_mem hk)
  rwa [show (bs.map (·.2)).getD k [] = bs[k].2 by rw [List.getD_eq_getElem?_getD, List.getElem?_map, List.getElem?_eq_getElem hk]; rfl]
theorem Shp.len {ps : List (List Int)} (h : Shp K H t ps) : ∃ xs, SqT K H t xs ∧ xs.length = ps.length := let ⟨bs, h1, _, h3⟩ := h; ⟨_, h1, by rw [← h3, List.length_map, List.length_map]⟩
/-- a list of tuples, made a tuple -/
theorem w_shape {fs : List (List Int)} (h : LT K H l fs) (q : ∀ t H', Ch [] H H' → Shp K H' t fs → Q (.ref t) H') : rTupOf K [.ref l] H Q := by
  obtain ⟨bs, e, ht, h3⟩ := h
  exact w_tupOf (SqL.of e) fun t H' c e' => q t H' c ⟨bs, e', c.sqts ht, h3⟩
end
/-! ### comprehensions that make lists of int tuples -/
section
variable {K : PySem.W.Frag} {H H1 : Hp} {Q : VK} {a L : Addr} {xs : List V} {j n : Nat} {te : TE} {vs : List Nat} {σ : L2.St} {F : Nat → List Int} {i : Nat} {acc : List V}
def Made (K : PySem.W.Frag) (H : Hp) (F : Nat → List Int) (_ : Addr) (i : Nat) (acc : List V) (H' : Hp) : Prop := Ch [] H H' ∧ ∃ cs : List (Addr × List Int), acc = cs.map (fun c => V.ref c.1) ∧ (∀ c ∈ cs, SqT K H' c.1 (c.2.map V.int)) ∧ cs.map (·.2) = (List.range i).map F
theorem made_none (c : Ch [] H H1) : Made K H F L 0 [] H1 := ⟨c, [], rfl, (fun _ h => nomatch h), rfl⟩
theorem made_turn (hL : H L = none) (ha : acc.length ≤ i) (hi : i < 10000000) (e : H1 L = some (.lst acc)) (m : Made K H F L i acc H1)
    (ht : ∀ (Q : VK), (∀ t H2, Ch [] H1 H2 → SqT K H2 t ((F i).map V.int) → Q (.ref t) H2) → te σ H1 Q) : LcTurn (Made K H F) tYes te L i σ H1 := by
  obtain ⟨c, cs, rfl, h1, h2⟩ := m
  refine w_turnY (ht _ fun t H2 c2 e2 => w_lcput (c2.lst e) ha hi fun H5 c5 e5 => ?_)
  refine ⟨Ch.old (c.trans c2) hL c5, cs ++ [(t, F i)], by rw [List.map_append]; rfl, fun b hb => ?_, by rw [List.map_append, h2, List.range_succ, List.map_append]; rfl⟩
  rcases List.mem_append.mp hb with h | h
  · exact c5.sqt (c2.sqt (h1 b h))
  · rw [List.mem_singleton.mp h]
    exact c5.sqt e2
theorem made_end (e : H1 L = some (.lst acc)) (m : Made K H F L i acc H1) : LT K H1 L ((List.range i).map F) := by
  obtain ⟨c, cs, rfl, h1, h2⟩ := m
  exact ⟨cs, e, h1, h2⟩
theorem w_lcRT (F : Nat → List Int) (hw : ∀ x, wipe ((wipe σ vs).set j (some x)) vs = wipe σ vs) (hn : n ≤ 10000000)
    (ht : ∀ (i : Nat) H1 (Q : VK), i < n → Ch [] H H1 → (∀ t H2, Ch [] H1 H2 → SqT K H2 t ((F i).map V.int) → Q (.ref t) H2) → te ((wipe σ vs).set j (some (.int (i : Int)))) H1 Q)
    (k : ∀ l H', H l = none → Ch [] H H' → LT K H' l ((List.range n).map F) → Q (.ref l) H') : LcGo (Itr 0 n) (gName j) tYes te vs σ H Q :=
  w_lcR (Made K H F) (fun _ _ _ c _ => made_none c) hw (fun L i acc H' hL hi ha e m => made_turn hL ha (by omega) e m fun Q q => ht i H' Q hi m.1 q) (fun L acc H' hL e m => k L H' hL m.1 (made_end e m))
theorem w_lcTT (F : Nat → List Int) (hs : SqT K H a xs) (hw : ∀ x, wipe ((wipe σ vs).set j (some x)) vs = wipe σ vs) (hn : xs.length ≤ 10000000)
    (ht : ∀ (i : Nat) x H1 (Q : VK), xs[i]? = some x → Ch [] H H1 → (∀ t H2, Ch [] H1 H2 → SqT K H2 t ((F i).map V.int) → Q (.ref t) H2) → te ((wipe σ vs).set j (some x)) H1 Q)
    (k : ∀ l H', H l = none → Ch [] H H' → LT K H' l ((List.range xs.length).map F) → Q (.ref l) H') : LcGo (Itt K a) (gName j) tYes te vs σ H Q :=
  w_lcT (Made K H F) (fun _ _ _ c _ => made_none c) hw (fun L i acc H' hL e m => m.1.sqt hs) (fun L i x acc H' hL hx ha e m => made_turn hL ha (by have := (List.getElem?_eq_some_iff.mp hx).1; omega) e m fun Q q => ht i x H' Q hx m.1 q) (fun L acc H' hL e m => k L H' hL m.1 (made_end e m))
theorem w_lcLT (F : Nat → List Int) (hs : SqL K H a xs) (hw : ∀ x, wipe ((wipe σ vs).set j (some x)) vs = wipe σ vs) (hn : xs.length ≤ 10000000)
    (ht : ∀ (i : Nat) x H1 (Q : VK), xs[i]? = some x → Ch [] H H1 → (∀ t H2, Ch [] H1 H2 → SqT K H2 t ((F i).map V.int) → Q (.ref t) H2) → te ((wipe σ vs).set j (some x)) H1 Q)
    (k : ∀ l H', H l = none → Ch [] H H' → LT K H' l ((List.range xs.length).map F) → Q (.ref l) H') : LcGo (Itl K a) (gName j) tYes te vs σ H Q :=
  w_lcL (Made K H F) (fun _ _ _ c _ => made_none c) hw (fun L i acc H' hL e m => m.1.sql hs) (fun L i x acc H' hL hx ha e m => made_turn hL ha (by have := (List.getElem?_eq_some_iff.mp hx).1; omega) e m fun Q q => ht i x H' Q hx m.1 q) (fun L acc H' hL e m => k L H' hL m.1 (made_end e m))
end
theorem int_at {ns : List Int} {i : Nat} {x : V} (h : (ns.map V.int)[i]? = some x) : i < ns.length ∧ x = .int (ns.getD i 0) := by
  rw [List.getElem?_map] at h
  obtain ⟨n, h1, rfl⟩ := Option.map_eq_some_iff.mp h
  refine ⟨(List.getElem?_eq_some_iff.mp h1).1, ?_⟩
  rw [List.getD_eq_getElem?_getD, h1]
  rfl
theorem map_getD {α : Type} (ns : List Int) (g : Int → α) : (List.range ns.length).map (fun i => g (ns.getD i 0)) = ns.map g := by
  refine List.ext_getElem (by simp) fun i h1 h2 => ?_
  have h : i < ns.length := by simpa using h2
  simp [List.getD_eq_getElem?_getD, h]
theorem map_getDL {α : Type} (ns : List (List Int)) (g : List Int → α) : (List.range ns.length).map (fun i => g (ns.getD i [])) = ns.map g := by
  refine List.ext_getElem (by simp) fun i h1 h2 => ?_
  have h : i < ns.length := by simpa using h2
  simp [List.getD_eq_getElem?_getD, h]
theorem take_filter {ns : List Int} {p : Int → Bool} {i : Nat} (h : i < ns.length) : (ns.take (i + 1)).filter p = (ns.take i).filter p ++ if p (ns.getD i 0) = true then [ns.getD i 0] else [] := by
  have e : (ns[i]?).toList = [ns.getD i 0] := by rw [List.getD_eq_getElem?_getD, List.getElem?_eq_getElem h]; rfl
  rw [List.take_add_one, List.filter_append, e]
  congr 1
  by_cases c : p (ns.getD i 0) = true
  · rw [if_pos c, List.filter_cons_of_pos c, List.filter_nil]
  · rw [if_neg c, List.filter_cons_of_neg c, List.filter_nil]

/-! ### comprehensions that make lists of plain values -/
section
variable {K : PySem.W.Frag} {H H1 : Hp} {Q : VK} {a L : Addr} {xs : List V} {j n : Nat} {te : TE} {tt : TT} {vs : List Nat} {σ : L2.St} {i : Nat} {acc : List V} {S : List Addr}
def MadeV (H : Hp) (F : Nat → V) (_ : Addr) (i : Nat) (acc : List V) (H' : Hp) : Prop := Ch [] H H' ∧ acc = (List.range i).map F
theorem madeV_turn {F : Nat → V} (hL : H L = none) (ha : acc.length ≤ i) (hi : i < 10000000) (e : H1 L = some (.lst acc)) (m : MadeV H F L i acc H1)
    (ht : ∀ (Q : VK), (∀ H2, Ch [] H1 H2 → Q (F i) H2) → te σ H1 Q) : LcTurn (MadeV H F) tYes te L i σ H1 := by
  obtain ⟨c, rfl⟩ := m
  refine w_turnY (ht _ fun H2 c2 => w_lcput (c2.lst e) ha hi fun H5 c5 e5 => ?_)
  exact ⟨Ch.old (c.trans c2) hL c5, by rw [List.range_succ, List.map_append]; rfl⟩
theorem w_lcRV (F : Nat → V) (hw : ∀ x, wipe ((wipe σ vs).set j (some x)) vs = wipe σ vs) (hn : n ≤ 10000000)
    (ht : ∀ (i : Nat) H1 (Q : VK), i < n → Ch [] H H1 → (∀ H2, Ch [] H1 H2 → Q (F i) H2) → te ((wipe σ vs).set j (some (.int (i : Int)))) H1 Q)
    (k : ∀ l H', H l = none → Ch [] H H' → H' l = some (.lst ((List.range n).map F)) → Q (.ref l) H') : LcGo (Itr 0 n) (gName j) tYes te vs σ H Q :=
  w_lcR (MadeV H F) (fun _ _ _ c _ => ⟨c, rfl⟩) hw (fun L i acc H' hL hi ha e m => madeV_turn hL ha (by omega) e m fun Q q => ht i H' Q hi m.1 q) (fun L acc H' hL e m => k L H' hL m.1 (m.2 ▸ e))
theorem w_lcTV (F : Nat → V) (hs : SqT K H a xs) (hw : ∀ x, wipe ((wipe σ vs).set j (some x)) vs = wipe σ vs) (hn : xs.length ≤ 10000000)
    (ht : ∀ (i : Nat) x H1 (Q : VK), xs[i]? = some x → Ch [] H H1 → (∀ H2, Ch [] H1 H2 → Q (F i) H2) → te ((wipe σ vs).set j (some x)) H1 Q)
    (k : ∀ l H', H l = none → Ch [] H H' → H' l = some (.lst ((List.range xs.length).map F)) → Q (.ref l) H') : LcGo (Itt K a) (gName j) tYes te vs σ H Q :=
  w_lcT (MadeV H F) (fun _ _ _ c _ => ⟨c, rfl⟩) hw (fun L i acc H' hL e m => m.1.sqt hs) (fun L i x acc H' hL hx ha e m => madeV_turn hL ha (by have := (List.getElem?_eq_some_iff.mp hx).1; omega) e m fun Q q => ht i x H' Q hx m.1 q) (fun L acc H' hL e m => k L H' hL m.1 (m.2 ▸ e))
theorem w_lcLV (F : Nat → V) (hs : SqL K H a xs) (hw : ∀ x, wipe ((wipe σ vs).set j (some x)) vs = wipe σ vs) (hn : xs.length ≤ 10000000)
    (ht : ∀ (i : Nat) x H1 (Q : VK), xs[i]? = some x → Ch [] H H1 → (∀ H2, Ch [] H1 H2 → Q (F i) H2) → te ((wipe σ vs).set j (some x)) H1 Q)
    (k : ∀ l H', H l = none → Ch [] H H' → H' l = some (.lst ((List.range xs.length).map F)) → Q (.ref l) H') : LcGo (Itl K a) (gName j) tYes te vs σ H Q :=
  w_lcL (MadeV H F) (fun _ _ _ c _ => ⟨c, rfl⟩) hw (fun L i acc H' hL e m => m.1.sql hs) (fun L i x acc H' hL hx ha e m => madeV_turn hL ha (by have := (List.getElem?_eq_some_iff.mp hx).1; omega) e m fun Q q => ht i x H' Q hx m.1 q) (fun L acc H' hL e m => k L H' hL m.1 (m.2 ▸ e))
/-! ### comprehensions that keep some of ints -/
theorem filt_turn {ns : List Int} {g : Int → Bool} (hi : i < ns.length) (hb : ns.length ≤ 1000000) (hL : H L = none) (ha : acc.length ≤ i) (e : H1 L = some (.lst acc)) (m : Ch [] H H1 ∧ acc = ((ns.take i).filter g).map V.int)
    (ht : ∀ (QB : Bool → Hp → Prop), QB (g (ns.getD i 0)) H1 → tt σ H1 QB) (he : ∀ Q : VK, Q (.int (ns.getD i 0)) H1 → te σ H1 Q) :
    LcTurn (fun _ i acc H' => Ch [] H H' ∧ acc = ((ns.take i).filter g).map V.int) tt te L i σ H1 := by
  obtain ⟨c, rfl⟩ := m
  refine w_turn (ht _ ?_)
  by_cases hg : g (ns.getD i 0) = true
  · rw [if_pos hg]
    refine he _ (w_lcput e ha (by omega) fun H5 c5 e5 => ⟨Ch.old c hL c5, ?_⟩)
    rw [take_filter hi, if_pos hg, List.map_append]
    rfl
  · rw [if_neg hg]
    refine w_lcskip e ha ⟨c, ?_⟩
    rw [take_filter hi, if_neg hg, List.append_nil]
theorem w_lcTF {ns : List Int} (g : Int → Bool) (hs : SqT K H a (ns.map V.int)) (hw : ∀ x, wipe ((wipe σ vs).set j (some x)) vs = wipe σ vs) (hn : ns.length ≤ 1000000)
    (ht : ∀ (i : Nat) H1 (QB : Bool → Hp → Prop), i < ns.length → Ch [] H H1 → QB (g (ns.getD i 0)) H1 → tt ((wipe σ vs).set j (some (.int (ns.getD i 0)))) H1 QB)
    (he : ∀ (n : Int) H1 (Q : VK), Q (.int n) H1 → te ((wipe σ vs).set j (some (.int n))) H1 Q)
    (k : ∀ l H', H l = none → Ch [] H H' → H' l = some (.lst ((ns.filter g).map V.int)) → Q (.ref l) H') : LcGo (Itt K a) (gName j) tt te vs σ H Q :=
  w_lcT (fun _ i acc H' => Ch [] H H' ∧ acc = ((ns.take i).filter g).map V.int) (fun _ _ _ c _ => ⟨c, rfl⟩) hw (fun L i acc H' hL e m => m.1.sqt hs) (fun L i x acc H' hL hx ha e m => by
    obtain ⟨hi, rfl⟩ := int_at hx
    exact filt_turn hi hn hL ha e m (fun QB q => ht i H' QB hi m.1 q) (fun Q q => he _ H' Q q)) (fun L acc H' hL e m => by
    obtain ⟨c, rfl⟩ := m
    rw [List.length_map, List.take_length] at e
    exact k L H' hL c e)
theorem w_lcLF {ns : List Int} (g : Int → Bool) (hs : SqL K H a (ns.map V.int)) (hw : ∀ x, wipe ((wipe σ vs).set j (some x)) vs = wipe σ vs) (hn : ns.length ≤ 1000000)
    (ht : ∀ (i : Nat) H1 (QB : Bool → Hp → Prop), i < ns.length → Ch [] H H1 → QB (g (ns.getD i 0)) H1 → tt ((wipe σ vs).set j (some (.int (ns.getD i 0)))) H1 QB)
    (he : ∀ (n : Int) H1 (Q : VK), Q (.int n) H1 → te ((wipe σ vs).set j (some (.int n))) H1 Q)
    (k : ∀ l H', H l = none → Ch [] H H' → H' l = some (.lst ((ns.filter g).map V.int)) → Q (.ref l) H') : LcGo (Itl K a) (gName j) tt te vs σ H Q :=
  w_lcL (fun _ i acc H' => Ch [] H H' ∧ acc = ((ns.take i).filter g).map V.int) (fun _ _ _ c _ => ⟨c, rfl⟩) hw (fun L i acc H' hL e m => m.1.sql hs) (fun L i x acc H' hL hx ha e m => by
    obtain ⟨hi, rfl⟩ := int_at hx
    exact filt_turn hi hn hL ha e m (fun QB q => ht i H' QB hi m.1 q) (fun Q q => he _ H' Q q)) (fun L acc H' hL e m => by
    obtain ⟨c, rfl⟩ := m
    rw [List.length_map, List.take_length] at e
    exact k L H' hL c e)
theorem upto_get {n i : Nat} (h : i < n) : (upto n).getD i 0 = (i : Int) := by
  unfold upto
  rw [List.getD_eq_getElem?_getD, List.getElem?_map, List.getElem?_range h]
  rfl
theorem upto_len (n : Nat) : (upto n).length = n := by simp [upto]
theorem w_lcRF (g : Int → Bool) (hw : ∀ x, wipe ((wipe σ vs).set j (some x)) vs = wipe σ vs) (hn : n ≤ 1000000)
    (ht : ∀ (i : Nat) H1 (QB : Bool → Hp → Prop), i < n → Ch [] H H1 → QB (g (i : Int)) H1 → tt ((wipe σ vs).set j (some (.int (i : Int)))) H1 QB)
    (he : ∀ (n : Int) H1 (Q : VK), Q (.int n) H1 → te ((wipe σ vs).set j (some (.int n))) H1 Q)
    (k : ∀ l H', H l = none → Ch [] H H' → H' l = some (.lst (((upto n).filter g).map V.int)) → Q (.ref l) H') : LcGo (Itr 0 n) (gName j) tt te vs σ H Q :=
  w_lcR (fun _ i acc H' => Ch [] H H' ∧ acc = (((upto n).take i).filter g).map V.int) (fun _ _ _ c _ => ⟨c, rfl⟩) hw (fun L i acc H' hL hi ha e m => by
    have hl := upto_len n
    have hg := upto_get hi
    have := filt_turn (tt := tt) (te := te) (σ := (wipe σ vs).set j (some (.int (i : Int)))) (ns := upto n) (g := g) (i := i) (by omega) (by omega) hL ha e m (fun QB q => ht i H' QB hi m.1 (by rw [hg] at q; exact q)) (fun Q q => he _ H' Q (by rw [hg] at q; exact q))
    exact this) (fun L acc H' hL e m => by
    obtain ⟨c, rfl⟩ := m
    rw [List.take_of_length_le (by rw [upto_len]; exact Nat.le_refl _)] at e
    exact k L H' hL c e)
/-! ### lists of tuples: put behind, taken out in another order -/
theorem w_appLT {fs : List (List Int)} {l t : Addr} {ms : List Int} (h : LT K H l fs) (ht : SqT K H t (ms.map V.int)) (hz : fs.length < 1000000) (q : ∀ H', Ch [l] H H' → LT K H' l (fs ++ [ms]) → Q .non H') : rAppend (.ref l) [.ref t] H Q := by
  obtain ⟨bs, e, hb, rfl⟩ := h
  rw [List.length_map] at hz
  refine w_app e (by rw [sizeLine_eq, List.length_map]; omega) fun H' c e' => q H' c ⟨bs ++ [(t, ms)], by rw [e', List.map_append]; rfl, fun b hb' => ?_, by rw [List.map_append]; rfl⟩
  rcases List.mem_append.mp hb' with h | h
  · exact c.sqt (hb b h)
  · rw [List.mem_singleton.mp h]
    exact c.sqt ht
theorem w_tyLT {A : Prop} {fs : List (List Int)} {l : Addr} (h : LT K H l fs) (q : A) : tyV K "list" (.ref l) H ∧ A := by
  obtain ⟨bs, e, _⟩ := h
  exact w_tyL e q
theorem w_lenLT {fs : List (List Int)} {l : Addr} (h : LT K H l fs) (q : Q (.int fs.length) H) : rLenL K [.ref l] H Q := by
  obtain ⟨bs, e, _, rfl⟩ := h
  refine w_lenL (SqL.of e) ?_
  rw [List.length_map]
  rwa [List.length_map] at q
theorem perm_refs {α β : Type} {f : α → β} {l1 l2 : List β} (h : l1.Perm l2) : ∀ bs : List α, l2 = bs.map f → ∃ bs' : List α, bs'.Perm bs ∧ l1 = bs'.map f := by
  induction h with
  | nil =>
    intro bs e
    exact ⟨bs, .refl _, e⟩
  | @cons x l1 l2 _ ih =>
    intro bs e
    cases bs with
    | nil => cases e
    | cons b bs =>
      rw [List.map_cons, List.cons.injEq] at e
      obtain ⟨bs', p, e'⟩ := ih bs e.2
      exact ⟨b :: bs', p.cons b, by rw [List.map_cons, e.1, e']⟩
  | @swap x y l =>
    intro bs e
    match bs, e with
    | b :: c :: bs, e =>
      simp only [List.map_cons, List.cons.injEq] at e
      exact ⟨c :: b :: bs, List.Perm.swap _ _ _, by rw [List.map_cons, List.map_cons, e.1, e.2.1, e.2.2]⟩
  | trans _ _ ih1 ih2 =>
    intro bs e
    obtain ⟨b2, p2, e2⟩ := ih2 bs e
    obtain ⟨b1, p1, e1⟩ := ih1 b2 e2
    exact ⟨b1, p1.trans p2, e1⟩
end
local macro_rules | `(tactic| walk_at "sq") => `(tactic| first | assumption | exact SqL.of (by assumption) | exact Fz.sql (by assumption))
local macro_rules | `(tactic| walk_at "num") => `(tactic| first | decide | omega | (constructor <;> first | decide | omega) | (refine Or.inl ⟨?_, ?_⟩ <;> first | decide | omega) | (refine Or.inr ⟨?_, ?_⟩ <;> first | decide | omega) | (refine ⟨?_, ?_, ?_⟩ <;> first | decide | omega))
local macro_rules | `(tactic| walk_at "rd1") => `(tactic| first
  | with_reducible refine w_seq ?_
  | with_reducible refine w_asg ?_
  | with_reducible refine w_if ?_
  | with_reducible refine w_ret ?_
  | with_reducible refine w_drop ?_
  | with_reducible refine w_next ?_
  | with_reducible refine w_op ?_
  | with_reducible refine w_un ?_
  | with_reducible refine w_var0 ?_
  | with_reducible refine w_varS ?_
  | with_reducible refine w_c ?_
  | with_reducible refine w_add ?_
  | with_reducible refine w_subt ?_
  | ((with_reducible refine w_mul ?_ ?_); · walk_at "num")
  | ((with_reducible refine w_div ?_ ?_); · walk_at "num")
  | ((with_reducible refine w_mod ?_ ?_); · walk_at "num")
  | ((with_reducible refine w_pow ?_ ?_); · walk_at "num")
  | with_reducible refine w_lt ?_
  | with_reducible refine w_le ?_
  | with_reducible refine w_gt ?_
  | with_reducible refine w_ge ?_
  | with_reducible refine w_eqI ?_
  | with_reducible refine w_neI ?_
  | with_reducible refine w_U ?_
  | with_reducible refine w_test ?_
  | with_reducible refine w_B ?_
  | with_reducible refine w_bl ?_
  | with_reducible refine w_int ?_
  | with_reducible refine w_and ?_
  | with_reducible refine w_or ?_
  | with_reducible refine w_not ?_
  | with_reducible refine w_notV ?_
  | with_reducible refine w_andV ?_
  | with_reducible refine w_orV ?_
  | with_reducible refine w_ifE ?_
  | with_reducible refine iteF ?_
  | with_reducible refine iteT ?_
  | with_reducible refine iteNT ?_
  | with_reducible refine iteNF ?_
  | with_reducible refine w_sub ?_
  | with_reducible refine w_gcons ?_
  | with_reducible refine w_gnil ?_
  | ((with_reducible refine w_unl (xs := ?xs) ?h ?hl ?_); (case h => walk_at "sq"); (case hl => rfl))
  | with_reducible refine w_nilA ?_
  | with_reducible refine w_consA ?_
  | with_reducible refine w_cb ?_
  | with_reducible refine w_call ?_
  | with_reducible refine w_abs ?_
  | with_reducible refine w_intB ?_
  | with_reducible refine w_lst ?_
  | with_reducible refine w_tup ?_
  | with_reducible refine w_sl ?_
  | with_reducible refine w_part ?_
  | with_reducible refine w_noPart ?_
  | with_reducible refine w_bm ?_
  | with_reducible refine w_bm0 ?_
  | with_reducible refine w_ckw ?_
  | ((with_reducible refine w_shl ?_ ?_); · walk_at "num")
  | ((with_reducible refine w_shr ?_ ?_); · walk_at "num")
  | with_reducible refine w_band ?_
  | ((with_reducible refine w_lenT (xs := ?xs) ?h ?_); (case h => assumption))
  | ((with_reducible refine w_ixT (xs := ?xs) (v := ?v) ?h ?ha ?_); (case h => assumption); (case ha => rfl))
  | ((with_reducible refine w_gtup (xs := ?xs) ?h ?hl ?_); (case h => assumption); (case hl => rfl))
  | with_reducible refine w_lstRg ?_
  | with_reducible refine w_tupRg ?_
  | with_reducible refine w_revL ?_
  | with_reducible refine w_isB ?_
  | with_reducible refine w_notB ?_
  | with_reducible refine w_neB ?_
  | with_reducible refine w_isiB ?_
  | ((with_reducible refine w_inT (ns := ?xs) ?h ?_); (case h => assumption))
  | ((with_reducible refine w_ninT (ns := ?xs) ?h ?_); (case h => assumption))
  | with_reducible refine w_for ?_
  | with_reducible refine w_lc ?_
  | with_reducible refine w_rng1 ?_
  | with_reducible refine w_rng2 ?_
  | with_reducible refine w_iL ?_
  | with_reducible refine w_iT ?_
  | with_reducible refine w_turnY ?_
  | with_reducible refine w_turn ?_
  | ((with_reducible refine w_name ?_); dsimp only [List.set_cons_zero, List.set_cons_succ])
  | ((with_reducible refine w_lenL (xs := ?xs) ?h ?_); (case h => walk_at "sq"))
  | ((with_reducible refine w_ixL (xs := ?xs) (v := ?v) ?h ?ha ?_); (case h => walk_at "sq"); (case ha => rfl))
  | ((with_reducible refine w_tyL (xs := ?xs) ?h ?_); (case h => assumption))
  )
local macro_rules | `(tactic| walk_at "rd") => `(tactic| repeat walk_at "rd1")

/-- the pen: the script, a place (at most n), a rest -/
def Pen (K : PySem.W.Frag) (H : Hp) (p : Addr) (n : Nat) : Prop := ∃ (sc : Addr) (ns : List Int) (at' gr : Int), H p = some (.lst [.ref sc, .int at', .int gr]) ∧ Fz K H sc (ns.map V.int) ∧ 0 ≤ at' ∧ at' ≤ n ∧ 0 ≤ gr
section
variable {K : PySem.W.Frag} {H H' : Hp} {p q l : Addr} {n m : Nat}
theorem Pen.keep (h : Pen K H p n) (c : Ch [] H H') : Pen K H' p n :=
  let ⟨sc, ns, a, g, h1, h2, h3⟩ := h
  ⟨sc, ns, a, g, c.lst h1, c.fz h2, h3⟩
theorem Pen.but (h : Pen K H p n) (c : Ch [q] H H') (ne : p ≠ q) : Pen K H' p n :=
  let ⟨sc, ns, a, g, h1, h2, h3⟩ := h
  ⟨sc, ns, a, g, c.but h1 ne, c.fz h2, h3⟩
theorem Pen.ne (h : Pen K H p n) (hn : H q = none) : p ≠ q :=
  let ⟨_, _, _, _, h1, _⟩ := h
  ne_new h1 hn
theorem Pen.le (h : Pen K H p n) (hn : n ≤ m) : Pen K H p m :=
  let ⟨sc, ns, a, g, h1, h2, h3, h4, h5⟩ := h
  ⟨sc, ns, a, g, h1, h2, h3, by omega, h5⟩
theorem free_pen (c : Ch [p] H H') (hp : Pen K H' p n) (h : H' l = none) : H l = none := by
  cases q : H l with
  | none => rfl
  | some o =>
    by_cases e : l = p
    · exact absurd e (Ne.symm (hp.ne h))
    · rw [c.but q e] at h
      cases h
end
def sp_lpen (K : PySem.W.Frag) : Sp := fun vs H Q _ => ∃ (a : Addr) (ns : List Int), vs = [.ref a] ∧ Fz K H a (ns.map V.int) ∧ ∀ p H', H p = none → Ch [] H H' → Pen K H' p 0 → Q (.ref p) H'
def t_lpen (K : PySem.W.Frag) : TS :=
    (tRet (tLst (tCons (tVar 0) (tCons (tC (.int 0)) (tCons (tC (.int 0)) tNil)))))

theorem len_lpen (K : PySem.W.Frag) : ∀ vs H Q E, sp_lpen K vs H Q E → vs.length = 1 := by
  rintro vs H Q E ⟨p, m, rfl, _⟩
  rfl
theorem rd_lpen {K : PySem.W.Frag} {H : Hp} {vs : List V} {Q : VK} {E : XK} {N : List Str} (h : sp_lpen K vs H Q E) (hN : N.length = 1 := by rfl) : t_lpen K { nx := fun _ H' => Q .non H', rt := Q } (start N vs) H := by
  obtain ⟨a, ns, rfl, hs, k⟩ := h
  refine w_start (σ := [some (.ref a)]) (by simp [L2.start, hN]) ?_
  unfold t_lpen
  walk_at "rd"
  exact w_newA (by show 3 ≤ sizeLine; decide) fun p H1 hp c1 e1 => k p H1 hp c1 ⟨a, ns, 0, 0, e1, c1.fz hs, by decide, by decide, by decide⟩
def sp_ldraw (K : PySem.W.Frag) : Sp := fun vs H Q _ => ∃ (p : Addr) (m : Int) (n : Nat), vs = [.ref p, .int m] ∧ Pen K H p n ∧ n < 1000000000 ∧ 0 < m ∧ m < 1073741824 ∧ ∀ r H', 0 ≤ r → r < m → Ch [p] H H' → Pen K H' p (n + 1) → Q (.int r) H'
def t_ldraw (K : PySem.W.Frag) : TS :=
    (tSeq (tAsg (tVar 0) (gUnl K 3 (gCons (gName 2) (gCons (gName 3) (gCons (gName 4) gNil)))))
    (tSeq (tIfS (tTest (tOp rGt (tVar 4) (tC (.int 0)))) (tSeq (tAsg (tOp rDiv (tVar 4) (tVar 1)) (gSub (tVar 0) (tC (.int 2)) rSetL))
    (tRet (tOp rMod (tVar 4) (tVar 1)))) tNext)
    (tSeq (tAsg (tOp rAdd (tVar 3) (tC (.int 1))) (gSub (tVar 0) (tC (.int 1)) rSetL))
    (tSeq (tAsg (tOp rAdd (tOp rAdd (tOp rMul (tOp rMul (tC (.int 41)) (tVar 3)) (tVar 3)) (tOp rMul (tC (.int 7)) (tVar 3))) (tC (.int 3))) (gName 5))
    (tCut (tIfS (tTest (tOp rGt (tCB (rLenL K) (tCons (tVar 2) tNil)) (tC (.int 0)))) (tAsg (tOp (rIxL K) (tVar 2) (tOp rMod (tVar 3) (tCB (rLenL K) (tCons (tVar 2) tNil)))) (gName 5)) tNext)
    (tSeq (tIfS (tAnd (tTest (tOp rLt (tVar 3) (tCB (rLenL K) (tCons (tVar 2) tNil)))) (tTest (tOp rGe (tCB rAbs (tCons (tVar 5) tNil)) (tOp rPow (tC (.int 10)) (tC (.int 18)))))) (tSeq (tAsg (tOp rDiv (tCB rAbs (tCons (tVar 5) tNil)) (tVar 1)) (gSub (tVar 0) (tC (.int 2)) rSetL))
    (tRet (tOp rMod (tCB rAbs (tCons (tVar 5) tNil)) (tVar 1)))) tNext)
    (tSeq (tAsg (tOp rMod (tOp rMul (tOp rAdd (tOp rAdd (tOp rMod (tVar 5) (tC (.int 2147483629))) (tOp rMul (tC (.int 40507)) (tVar 3))) (tC (.int 5))) (tC (.int 48271))) (tC (.int 2147483647))) (gName 6))
    (tSeq (tAsg (tOp rMod (tOp rAdd (tOp rAdd (tOp rMul (tVar 6) (tVar 6)) (tOp rMul (tC (.int 69621)) (tVar 3))) (tC (.int 3))) (tC (.int 2147483587))) (gName 6))
    (tRet (tOp rMod (tOp rDiv (tOp rMod (tOp rMul (tVar 6) (tOp rAdd (tOp rMod (tVar 6) (tC (.int 65521))) (tC (.int 7)))) (tC (.int 2147483629))) (tC (.int 64))) (tVar 1)))))))))))

theorem len_ldraw (K : PySem.W.Frag) : ∀ vs H Q E, sp_ldraw K vs H Q E → vs.length = 2 := by
  rintro vs H Q E ⟨p, m, n, rfl, _⟩
  rfl
theorem rd_ldraw {K : PySem.W.Frag} {H : Hp} {vs : List V} {Q : VK} {E : XK} {N : List Str} (h : sp_ldraw K vs H Q E) (hN : N.length = 7 := by rfl) : t_ldraw K { nx := fun _ H' => Q .non H', rt := Q } (start N vs) H := by
  obtain ⟨p, m, n, rfl, ⟨scr, ns, at', gr, hp, hs, h0, hn, h1⟩, nb, m0, m1, k⟩ := h
  refine w_start (σ := [some (.ref p), some (.int m), none, none, none, none, none]) (by simp [L2.start, hN]) ?_
  unfold t_ldraw
  walk_at "rd"
  refine w_ite (fun hg => ?_) (fun hg => ?_)
  · walk_at "rd"
    refine w_setL hp rfl fun H1 c1 e1 => ?_
    walk_at "rd"
    exact k _ _ (Int.emod_nonneg _ (by omega)) (Int.emod_lt_of_pos _ m0) c1 ⟨scr, ns, at', gr / m, e1, c1.fz hs, h0, by omega, Int.ediv_nonneg h1 (by omega)⟩
  · walk_at "rd"
    refine w_setL hp rfl fun H2 c2 e2 => ?_
    replace e2 : H2 p = some (.lst [.ref scr, .int (at' + 1), .int gr]) := e2
    have hs2 := c2.fz hs
    walk_at "rd"
    refine w_cut (fun σ' H' => H' = H2 ∧ ∃ c : Int, σ' = [some (.ref p), some (.int m), some (.ref scr), some (.int at'), some (.int gr), some (.int c), none]) ?_ ?_
    · walk_at "rd"
      refine w_ite (fun hn => ?_) (fun hn => ?_)
      · walk_at "rd"
        rw [List.length_map] at hn ⊢
        refine w_ixLI hs2.sql (Int.emod_nonneg _ (by omega)) (Int.emod_lt_of_pos _ hn) ?_
        exact ⟨rfl, _, rfl⟩
      · exact ⟨rfl, _, rfl⟩
    · rintro σ' H' ⟨rfl, c, rfl⟩
      have pen : ∀ g, 0 ≤ g → ∀ H3, H3 p = some (.lst [.ref scr, .int (at' + 1), .int g]) → Ch [p] H' H3 → Pen K H3 p (n + 1) := fun g g0 H3 e3 c3 => ⟨scr, ns, at' + 1, g, e3, c3.fz hs2, by omega, by omega, g0⟩
      have last : ∀ r : Int, 0 ≤ r → r < m → Q (.int r) H' := fun r r0 r1 => k _ _ r0 r1 c2 (pen gr h1 H' e2 .refl)
      walk_at "rd"
      refine w_ite (fun hn => ?_) (fun hn => ?_)
      · walk_at "rd"
        refine w_ite (fun hc => ?_) (fun hc => ?_)
        · walk_at "rd"
          refine w_setL e2 rfl fun H3 c3 e3 => ?_
          walk_at "rd"
          exact k _ _ (Int.emod_nonneg _ (by omega)) (Int.emod_lt_of_pos _ m0) (c2.trans c3) (pen _ (Int.ediv_nonneg (by omega) (by omega)) H3 e3 c3)
        · walk_at "rd"
          exact last _ (Int.emod_nonneg _ (by omega)) (Int.emod_lt_of_pos _ m0)
      · walk_at "rd"
        exact last _ (Int.emod_nonneg _ (by omega)) (Int.emod_lt_of_pos _ m0)
/-! ### some of a list, in a drawn order -/
def sp_lpicked (K : PySem.W.Frag) : Sp := fun vs H Q _ => ∃ (p l : Addr) (xs : List V) (m n : Nat), vs = [.ref p, .ref l, .int m] ∧ Pen K H p n ∧ n + m < 1000000000 ∧ SqL K H l xs ∧ m ≤ xs.length ∧ xs.length ≤ 1000000 ∧
  ∀ f ys zs H', H f = none → (ys ++ zs).Perm xs → ys.length = m → Ch [p] H H' → Pen K H' p (n + m) → H' f = some (.lst ys) → Q (.ref f) H'
def t_lpicked (K : PySem.W.Frag) : TS :=
    (tSeq (tAsg (tCB (rListOf K) (tCons (tVar 1) tNil)) (gName 3))
    (tSeq (tAsg (tLst tNil) (gName 4))
    (tSeq (tFor (iRng1 (tCons (tVar 2) tNil)) (gName 5)
    (tDrop (tBM K "list" rAppend (tVar 4) (tCons (tBM K "list" rPopAt (tVar 3) (tCons (tCall (sp_ldraw K) [] E0 (tCons (tVar 0) (tCons (tCB (rLenL K) (tCons (tVar 3) tNil)) tNil))) tNil)) tNil))))
    (tRet (tVar 4)))))

theorem len_lpicked (K : PySem.W.Frag) : ∀ vs H Q E, sp_lpicked K vs H Q E → vs.length = 3 := by
  rintro vs H Q E ⟨p, l, xs, m, n, rfl, _⟩
  rfl
theorem erase_perm {α : Type} {y : α} : ∀ {zs : List α} {k : Nat}, zs[k]? = some y → (y :: zs.eraseIdx k).Perm zs
  | [], _, e => by simp at e
  | z :: zs, 0, e => by
    simp at e
    subst e
    exact .refl _
  | z :: zs, k + 1, e => by
    rw [List.getElem?_cons_succ] at e
    rw [List.eraseIdx_cons_succ]
    exact (List.Perm.swap _ _ _).trans ((erase_perm e).cons z)
theorem perm_pick {α : Type} {xs ys zs : List α} {k : Nat} {y : α} (h : (ys ++ zs).Perm xs) (e : zs[k]? = some y) : ((ys ++ [y]) ++ zs.eraseIdx k).Perm xs := by
  refine List.Perm.trans ?_ h
  rw [List.append_assoc]
  exact List.Perm.append_left _ (erase_perm e)
theorem rd_lpicked {K : PySem.W.Frag} {H : Hp} {vs : List V} {Q : VK} {E : XK} {N : List Str} (h : sp_lpicked K vs H Q E) (hN : N.length = 6 := by rfl) : t_lpicked K { nx := fun _ H' => Q .non H', rt := Q } (start N vs) H := by
  obtain ⟨p, l, xs, m, n, rfl, hp, nb, hl, hm, hx, k⟩ := h
  refine w_start (σ := [some (.ref p), some (.ref l), some (.int m), none, none, none]) (by simp [L2.start, hN]) ?_
  unfold t_lpicked
  walk_at "rd"
  refine w_listL hl fun a H1 ha c1 e1 => ?_
  walk_at "rd"
  refine w_newA (by show 0 ≤ sizeLine; decide) fun f H2 hf c2 e2 => ?_
  have e12 := c2.lst e1
  have naf : a ≠ f := ne_new e1 hf
  have npa : p ≠ a := hp.ne ha
  have npf : p ≠ f := (hp.keep c1).ne hf
  walk_at "rd"
  refine w_rngN (n := m) rfl (by omega) ?_
  refine w_forR (fun i σ' H' => ∃ ys zs o5, Ch [p] H H' ∧ Pen K H' p (n + i) ∧ (ys ++ zs).Perm xs ∧ ys.length = i ∧ H' f = some (.lst ys) ∧ H' a = some (.lst zs) ∧ σ' = [some (.ref p), some (.ref l), some (.int m), some (.ref a), some (.ref f), o5])
    ⟨[], xs, none, (c1.trans c2).wide, (hp.keep c1).keep c2, .refl _, rfl, e2, e12, rfl⟩ ?_ ?_
  · rintro i σ' H3 hi ⟨ys, zs, o5, c3, hp3, pm, hy, ef, ea, rfl⟩
    dsimp only [List.set_cons_zero, List.set_cons_succ]
    have hz : zs.length = xs.length - i := by
      have := pm.length_eq
      rw [List.length_append] at this
      omega
    walk_at "rd"
    refine ⟨p, _, n + i, rfl, hp3, by omega, by omega, by omega, fun r H4 r0 r1 c4 hp4 => ?_⟩
    have ef4 := c4.but ef npf.symm
    have ea4 := c4.but ea npa.symm
    walk_at "rd"
    obtain ⟨y, hyz⟩ : ∃ y, zs[r.toNat]? = some y := ⟨zs[r.toNat], List.getElem?_eq_getElem (by omega)⟩
    refine w_popAt ea4 (k := r.toNat) (by omega) (by omega) hyz fun H5 c5 e5 => ?_
    have ef5 := c5.but ef4 naf.symm
    walk_at "rd"
    refine w_app ef5 (by rw [sizeLine_eq]; omega) fun H6 c6 e6 => ?_
    refine ⟨ys ++ [y], zs.eraseIdx r.toNat, _, Ch.old (Ch.old (c3.trans c4) ha c5) (c1.free hf) c6, (hp4.but c5 npa).but c6 npf, perm_pick pm hyz, by simp [hy], e6, c6.but e5 naf, rfl⟩
  · rintro σ' H3 ⟨ys, zs, o5, c3, hp3, pm, hy, ef, ea, rfl⟩
    walk_at "rd"
    exact k f ys zs H3 (c1.free hf) pm hy c3 hp3 ef

/-! ### corners: so many, rising -/
def sp_lcorners (K : PySem.W.Frag) : Sp := fun vs H Q _ => ∃ (p : Addr) (m n : Nat), vs = [.ref p, .int m] ∧ Pen K H p n ∧ n < 999999990 ∧ 1 ≤ m ∧ m ≤ 100 ∧
  ∀ l (cs : List Int) H', H l = none → cs.length = m → cs.Pairwise (· < ·) → (∀ x ∈ cs, x.natAbs < 10 ^ 40) → Ch [p] H H' → Pen K H' p (n + 4) → H' l = some (.lst (cs.map V.int)) → Q (.ref l) H'
def t_lcorners (K : PySem.W.Frag) : TS :=
    (tSeq (tAsg (tOp (rIxL K) (tLst (tCons (tC (.int 1)) (tCons (tC (.int 1)) (tCons (tC (.int 3)) (tCons (tOp rAdd (tOp rPow (tC (.int 10)) (tC (.int 9))) (tC (.int 7))) (tCons (tOp rPow (tC (.int 10)) (tC (.int 28))) tNil)))))) (tCall (sp_ldraw K) [] E0 (tCons (tVar 0) (tCons (tC (.int 5)) tNil)))) (gName 2))
    (tSeq (tAsg (tLst (tCons (tC (.int 0)) (tCons (tC (.int 1)) (tCons (tOp rSub (tC (.int 0)) (tOp rMul (tVar 2) (tCall (sp_ldraw K) [] E0 (tCons (tVar 0) (tCons (tOp rAdd (tVar 1) (tC (.int 1))) tNil))))) (tCons (tOp rSub (tOp rSub (tOp rPow (tC (.int 10)) (tC (.int 30))) (tC (.int 1))) (tOp rMul (tVar 2) (tOp rSub (tVar 1) (tC (.int 1))))) tNil))))) (gName 3))
    (tSeq (tAsg (tOp (rIxL K) (tVar 3) (tCall (sp_ldraw K) [] E0 (tCons (tVar 0) (tCons (tC (.int 4)) tNil)))) (gName 4))
    (tSeq (tAsg (tLc (iRng1 (tCons (tVar 1) tNil)) (gName 6) tYes (tOp rAdd (tVar 4) (tOp rMul (tVar 2) (tVar 6))) [6]) (gName 5))
    (tSeq (tIfS (tTest (tOp rEq (tCall (sp_ldraw K) [] E0 (tCons (tVar 0) (tCons (tC (.int 2)) tNil))) (tC (.int 0)))) (tRet (tVar 5)) tNext)
    (tRet (tLc (iList K (tRevL K (tVar 5))) (gName 7) tYes (tOp rSub (tC (.int 0)) (tVar 7)) [7])))))))

theorem len_lcorners (K : PySem.W.Frag) : ∀ vs H Q E, sp_lcorners K vs H Q E → vs.length = 2 := by
  rintro vs H Q E ⟨p, m, n, rfl, _⟩
  rfl
def steps (f s : Int) (m : Nat) : List Int := (List.range m).map fun (k : Nat) => f + s * (k : Int)
theorem steps_len (f s : Int) (m : Nat) : (steps f s m).length = m := by simp [steps]
theorem mulb {s k : Int} {B : Int} (s0 : 0 ≤ s) (s1 : s ≤ 10 ^ 28) (k0 : 0 ≤ k) (k1 : k ≤ B) : 0 ≤ s * k ∧ s * k ≤ 10 ^ 28 * B := by
  have hB : (0 : Int) ≤ B := by omega
  refine ⟨Int.mul_nonneg s0 k0, Int.le_trans (Int.mul_le_mul_of_nonneg_right s1 k0) (Int.mul_le_mul_of_nonneg_left k1 (by decide))⟩
theorem steps_rise {f s : Int} {m : Nat} (hs : 1 ≤ s) : (steps f s m).Pairwise (· < ·) := by
  unfold steps
  rw [List.pairwise_map]
  refine List.Pairwise.imp (fun {a b} h => ?_) List.pairwise_lt_range
  have : s * (a : Int) < s * (b : Int) := Int.mul_lt_mul_of_pos_left (by omega) (by omega)
  omega
theorem steps_bound {f s : Int} {m : Nat} (s0 : 1 ≤ s) (s1 : s ≤ 10 ^ 28) (hm : m ≤ 100) (hf : f.natAbs ≤ 10 ^ 31) : ∀ x ∈ steps f s m, x.natAbs < 10 ^ 40 := by
  intro x hx
  obtain ⟨k, hk, rfl⟩ := List.mem_map.mp hx
  have hk := List.mem_range.mp hk
  have := mulb (s := s) (k := (k : Int)) (B := 100) (by omega) s1 (by omega) (by omega)
  omega
theorem neg_rise {cs : List Int} (h : cs.Pairwise (· < ·)) : (cs.reverse.map fun c => 0 - c).Pairwise (· < ·) := by
  rw [List.pairwise_map, List.pairwise_reverse]
  exact h.imp fun {a b} h => by omega
theorem rd_lcorners {K : PySem.W.Frag} {H : Hp} {vs : List V} {Q : VK} {E : XK} {N : List Str} (h : sp_lcorners K vs H Q E) (hN : N.length = 8 := by rfl) : t_lcorners K { nx := fun _ H' => Q .non H', rt := Q } (start N vs) H := by
  obtain ⟨p, m, n, rfl, hp, nb, m0, m1, k⟩ := h
  refine w_start (σ := [some (.ref p), some (.int m), none, none, none, none, none, none]) (by simp [L2.start, hN]) ?_
  unfold t_lcorners
  walk_at "rd"
  refine w_newA (by show 5 ≤ sizeLine; decide) fun q H1 hq c1 e1 => ?_
  walk_at "rd"
  refine ⟨p, _, n, rfl, hp.keep c1, by omega, by decide, by decide, fun r H2 r0 r1 c2 hp2 => ?_⟩
  have e2 := c2.but e1 (Ne.symm (hp.ne hq))
  obtain ⟨s, hs, s0, s1⟩ : ∃ s : Int, atI [V.int 1, V.int 1, V.int 3, V.int (10 ^ Int.toNat 9 + 7), V.int (10 ^ Int.toNat 28)] r = some (.int s) ∧ 1 ≤ s ∧ s ≤ 10 ^ 28 := by
    have : r = 0 ∨ r = 1 ∨ r = 2 ∨ r = 3 ∨ r = 4 := by omega
    rcases this with rfl | rfl | rfl | rfl | rfl <;> exact ⟨_, rfl, by decide, by decide⟩
  refine w_ixL (SqL.of e2) hs ?_
  walk_at "rd"
  refine ⟨p, _, n + 1, rfl, hp2, by omega, by omega, by omega, fun d H3 d0 d1 c3 hp3 => ?_⟩
  walk_at "rd"
  refine w_newA (by show 4 ≤ sizeLine; decide) fun q' H4 hq' c4 e4 => ?_
  walk_at "rd"
  refine ⟨p, _, n + 2, rfl, hp3.keep c4, by omega, by decide, by decide, fun r' H5 r0' r1' c5 hp5 => ?_⟩
  have e5 := c5.but e4 (Ne.symm (hp3.ne hq'))
  obtain ⟨f, hf, hfb⟩ : ∃ f : Int, atI [V.int 0, V.int 1, V.int (0 - s * d), V.int (10 ^ Int.toNat 30 - 1 - s * ((m : Int) - 1))] r' = some (.int f) ∧ f.natAbs ≤ 10 ^ 31 := by
    have h1 := mulb (s := s) (k := d) (B := 100) (by omega) s1 (by omega) (by omega)
    have h2 := mulb (s := s) (k := (m : Int) - 1) (B := 100) (by omega) s1 (by omega) (by omega)
    have h3 : (10 : Int) ^ Int.toNat 30 = 10 ^ 30 := rfl
    have : r' = 0 ∨ r' = 1 ∨ r' = 2 ∨ r' = 3 := by omega
    rcases this with rfl | rfl | rfl | rfl
    · exact ⟨_, rfl, by decide⟩
    · exact ⟨_, rfl, by decide⟩
    · exact ⟨_, rfl, by omega⟩
    · exact ⟨_, rfl, by omega⟩
  refine w_ixL (SqL.of e5) hf ?_
  walk_at "rd"
  refine w_rngN (n := m) rfl (by omega) ?_
  refine w_lcRV (fun i => .int (f + s * (i : Int))) (fun _ => rfl) (by omega) (fun i H6 Q' hi c6 k' => ?_) (fun l H6 hl c6 e6 => ?_)
  · dsimp only [wipe, List.set_cons_zero, List.set_cons_succ]
    walk_at "rd"
    exact k' H6 .refl
  have e6' : H6 l = some (.lst ((steps f s m).map V.int)) := by
    rw [e6, steps, List.map_map]
    rfl
  have cH : Ch [p] H H6 := (((c1.wide.trans c2).trans c3).trans (c4.wide.trans c5)).trans c6.wide
  have hl0 : H l = none := c1.free (free_pen c2 hp2 (free_pen c3 hp3 (c4.free (free_pen c5 hp5 hl))))
  have hp6 := hp5.keep c6
  walk_at "rd"
  refine ⟨p, _, n + 3, rfl, hp6, by omega, by decide, by decide, fun z H7 z0 z1 c7 hp7 => ?_⟩
  have e7 := c7.but e6' (Ne.symm (hp5.ne hl))
  walk_at "rd"
  refine w_ite (fun hz => ?_) (fun hz => ?_)
  · walk_at "rd"
    exact k l _ H7 hl0 (steps_len f s m) (steps_rise s0) (steps_bound s0 s1 m1 hfb) (cH.trans c7) hp7 e7
  · walk_at "rd"
    refine w_revGo (SqL.of e7) fun l2 H8 hl2 c8 e8 => ?_
    rw [← List.map_reverse] at e8
    refine w_goL (SqL.of e8) ?_
    refine w_lcLV (fun i => .int (0 - (steps f s m).reverse.getD i 0)) (SqL.of e8) (fun _ => rfl) (by rw [List.length_map, List.length_reverse, steps_len]; omega) (fun i x H9 Q' hx c9 k' => ?_) (fun l3 H9 hl3 c9 e9 => ?_)
    · obtain ⟨hi, rfl⟩ := int_at hx
      dsimp only [wipe, List.set_cons_zero, List.set_cons_succ]
      walk_at "rd"
      exact k' H9 .refl
    · rw [List.length_map, map_getD (steps f s m).reverse (fun x => V.int (0 - x)), show (steps f s m).reverse.map (fun x => V.int (0 - x)) = ((steps f s m).reverse.map fun x => 0 - x).map V.int by rw [List.map_map]; rfl] at e9
      refine k l3 _ H9 ?_ ?_ (neg_rise (steps_rise s0)) ?_ ((cH.trans c7).trans (c8.trans c9).wide) ((hp7.keep c8).keep c9) e9
      · exact c1.free (free_pen c2 hp2 (free_pen c3 hp3 (c4.free (free_pen c5 hp5 (c6.free (free_pen c7 hp7 (c8.free hl3)))))))
      · rw [List.length_map, List.length_reverse, steps_len]
      · intro x hx
        obtain ⟨y, hy, rfl⟩ := List.mem_map.mp hx
        have := steps_bound s0 s1 m1 hfb y (List.mem_reverse.mp hy)
        omega

/-! ### rows: rising, of places -/
def RowOk (nn : Nat) (f : List Int) : Prop := f.length = nn ∧ f.Pairwise (· < ·) ∧ ∀ x ∈ f, 0 ≤ x ∧ x < 80
def sp_lrows (K : PySem.W.Frag) : Sp := fun vs H Q _ => ∃ (p : Addr) (m nn n : Nat), vs = [.ref p, .int m, .int nn] ∧ Pen K H p n ∧ n < 999990000 ∧ 1 ≤ m ∧ m ≤ 60 ∧ 1 ≤ nn ∧ nn ≤ 6 ∧
  ∀ l (fs : List (List Int)) H', H l = none → 1 ≤ fs.length → fs.length ≤ m → fs.Nodup → (∀ f ∈ fs, RowOk nn f) → Ch [p] H H' → Pen K H' p (n + 1000) → LT K H' l fs → Q (.ref l) H'
def t_lrows (K : PySem.W.Frag) (w : World) : TS :=
    (tSeq (tAsg (tOp rAdd (tVar 2) (tOp (rIxL K) (tLst (tCons (tC (.int 0)) (tCons (tC (.int 1)) (tCons (tC (.int 2)) (tCons (tC (.int 3)) (tCons (tC (.int 6)) tNil)))))) (tCall (sp_ldraw K) [] E0 (tCons (tVar 0) (tCons (tC (.int 5)) tNil))))) (gName 3))
    (tSeq (tAsg (tCall (sp_ldraw K) [] E0 (tCons (tVar 0) (tCons (tC (.int 4)) tNil))) (gName 4))
    (tSeq (tAsg (tLst (tCons (tTupRg (tRg1 (tVar 2))) tNil)) (gName 5))
    (tSeq (tFor (iRng1 (tCons (tOp rSub (tVar 1) (tC (.int 1))) tNil)) (gName 6)
    (tSeq (tAsg (tCall (sp_lpicked K) [] E0 (tCons (tVar 0) (tCons (tLstRg (tRg1 (tVar 3))) (tCons (tVar 2) tNil)))) (gName 7))
    (tCut (tIfS (tTest (tOp rGt (tVar 4) (tC (.int 0)))) (tSeq (tAsg (tOp (rIxL K) (tVar 5) (tCall (sp_ldraw K) [] E0 (tCons (tVar 0) (tCons (tCB (rLenL K) (tCons (tVar 5) tNil)) tNil)))) (gName 8))
    (tSeq (tAsg (tCall (sp_ldraw K) [] E0 (tCons (tVar 0) (tCons (tVar 2) tNil))) (gName 9))
    (tSeq (tAsg (tOp (rIxL K) (tLst (tCons (tCall (sp_ldraw K) [] E0 (tCons (tVar 0) (tCons (tVar 3) tNil))) (tCons (tOp rAdd (tVar 3) (tVar 6)) tNil))) (tCB rIntB (tCons (tAndV (tOp rGt (tVar 4) (tC (.int 1))) (tOp rGt (tCall (sp_ldraw K) [] E0 (tCons (tVar 0) (tCons (tC (.int 3)) tNil))) (tC (.int 0)))) tNil))) (gName 10))
    (tAsg (tOp (rCatA K) (tOp (rCatA K) (tSl (rSlA K) (tVar 8) tNoPart (tPart (tVar 9))) (tSl (rSlA K) (tVar 8) (tPart (tOp rAdd (tVar 9) (tC (.int 1)))) tNoPart)) (tTup (tCons (tVar 10) tNil))) (gName 7))))) tNext)
    (tSeq (tAsg (tCB (rTupOf K) (tCons (tCB (rSortedSet w) (tCons (tCB (rSetS K w) (tCons (tVar 7) tNil)) tNil)) tNil)) (gName 7))
    (tIfS (tAnd (tTest (tOp rEq (tCB (rLenL K) (tCons (tVar 7) tNil)) (tVar 2))) (tTest (tOp (rNotInD K) (tVar 7) (tVar 5)))) (tDrop (tBM K "list" rAppend (tVar 5) (tCons (tVar 7) tNil))) tNext)))))
    (tRet (tCall (sp_lpicked K) [] E0 (tCons (tVar 0) (tCons (tVar 5) (tCons (tCB (rLenL K) (tCons (tVar 5) tNil)) tNil)))))))))

theorem len_lrows (K : PySem.W.Frag) : ∀ vs H Q E, sp_lrows K vs H Q E → vs.length = 3 := by
  rintro vs H Q E ⟨p, m, nn, n, rfl, _⟩
  rfl
theorem upto_rise (n : Nat) : (upto n).Pairwise (· < ·) := by
  unfold upto
  rw [List.pairwise_map]
  exact List.Pairwise.imp (fun {a b} h => by omega) List.pairwise_lt_range
theorem upto_mem {n : Nat} {x : Int} (h : x ∈ upto n) : 0 ≤ x ∧ x < n := by
  obtain ⟨k, hk, rfl⟩ := List.mem_map.mp h
  have := List.mem_range.mp hk
  omega
/-- ints, by an order of them -/
theorem perm_ints {ys zs : List V} {ns : List Int} (h : (ys ++ zs).Perm (ns.map V.int)) : ∃ ms : List Int, ys = ms.map V.int ∧ (∀ x ∈ ms, x ∈ ns) ∧ (ns.Nodup → ms.Nodup) := by
  obtain ⟨bs, p, e⟩ := perm_refs h ns rfl
  refine ⟨bs.take ys.length, ?_, fun x hx => p.mem_iff.mp (List.mem_of_mem_take hx), fun nd => ?_⟩
  · rw [List.map_take, ← e, List.take_left]
  · exact (p.nodup_iff.mpr nd).sublist (List.take_sublist _ _)
theorem w_setSE {K : PySem.W.Frag} {w : World} {H : Hp} {Q : VK} {l : Addr} {ns : List Int} (h : SqL K H l (ns.map V.int) ∨ SqT K H l (ns.map V.int)) (hz : ns.length ≤ 1000) (q : ∀ p c H', c ≤ ns.length → H p = none → Ch [] H H' → H' p = some (SetO w p (fun j => decide (j ∈ ns)) c) → Q (.ref p) H') : rSetS K w [.ref l] H Q :=
  ⟨l, ns, rfl, h, hz, fun p c hc hp => q p c _ hc hp (.new hp) upd_same⟩
/-- the row at hand, ahead of its being sorted -/
def RowM (K : PySem.W.Frag) (H : Hp) (p l : Addr) (fs : List (List Int)) (N m nn bd i : Nat) (way : Int) (σ' : L2.St) (H' : Hp) : Prop := Ch [p] H H' ∧ Pen K H' p N ∧ LT K H' l fs ∧ ∃ (row : Addr) (rs : List Int) (o8 o9 oa : Option V), (SqL K H' row (rs.map V.int) ∨ SqT K H' row (rs.map V.int)) ∧ rs.length ≤ 6 ∧ (∀ x ∈ rs, 0 ≤ x ∧ x < 80) ∧
        σ' = [some (.ref p), some (.int m), some (.int nn), some (.int bd), some (.int way), some (.ref l), some (.int i), some (.ref row), o8, o9, oa]
theorem w_goB {c : Prop} [Decidable c] {tb : TE} {σ : L2.St} {H : Hp} {Q : VK} (R : Bool → Hp → Prop) (h0 : ¬ c → R false H) (h1 : c → (∀ bo Hd, R bo Hd → Q (.bl bo) Hd) → tb σ H Q) (go : ∀ bo Hd, R bo Hd → Q (.bl bo) Hd) : if decide c = true then tb σ H Q else Q (.bl false) H := by
  by_cases h : c
  · rw [if_pos (decide_eq_true h)]
    exact h1 h go
  · rw [if_neg (by rw [decide_eq_false h]; decide)]
    exact go _ _ (h0 h)
theorem rd_lrows {K : PySem.W.Frag} {w : World} {H : Hp} {vs : List V} {Q : VK} {E : XK} {N : List Str} (h : sp_lrows K vs H Q E) (hN : N.length = 11 := by rfl) : t_lrows K w { nx := fun _ H' => Q .non H', rt := Q } (start N vs) H := by
  obtain ⟨p, m, nn, n, rfl, hp, nb, m0, m1, n0, n1, k⟩ := h
  refine w_start (σ := [some (.ref p), some (.int m), some (.int nn), none, none, none, none, none, none, none, none]) (by simp [L2.start, hN]) ?_
  unfold t_lrows
  walk_at "rd"
  refine w_newA (by show 5 ≤ sizeLine; decide) fun q H1 hq c1 e1 => ?_
  walk_at "rd"
  refine ⟨p, _, n, rfl, hp.keep c1, by omega, by decide, by decide, fun r H2 r0 r1 c2 hp2 => ?_⟩
  have e2 := c2.but e1 (Ne.symm (hp.ne hq))
  obtain ⟨b, hb, b0, b1⟩ : ∃ b : Int, atI [V.int 0, V.int 1, V.int 2, V.int 3, V.int 6] r = some (.int b) ∧ 0 ≤ b ∧ b ≤ 6 := by
    have : r = 0 ∨ r = 1 ∨ r = 2 ∨ r = 3 ∨ r = 4 := by omega
    rcases this with rfl | rfl | rfl | rfl | rfl <;> exact ⟨_, rfl, by decide, by decide⟩
  refine w_ixL (SqL.of e2) hb ?_
  walk_at "rd"
  obtain ⟨bd, hbd⟩ : ∃ bd : Nat, (nn : Int) + b = (bd : Int) := ⟨((nn : Int) + b).toNat, by omega⟩
  rw [hbd]
  have bd0 : nn ≤ bd := by omega
  have bd1 : bd ≤ 12 := by omega
  refine ⟨p, _, n + 1, rfl, hp2, by omega, by decide, by decide, fun way H3 y0 y1 c3 hp3 => ?_⟩
  walk_at "rd"
  refine w_rgT (K := K) (n := nn) rfl (by omega) fun t0 H4 c4 e4 => ?_
  walk_at "rd"
  refine w_newA (by show 1 ≤ sizeLine; decide) fun l H5 hl c5 e5 => ?_
  have hp5 := (hp3.keep c4).keep c5
  have npl : p ≠ l := (hp3.keep c4).ne hl
  have cH5 : Ch [p] H H5 := ((c1.wide.trans c2).trans c3).trans (c4.trans c5).wide
  have hl0 : H l = none := c1.free (free_pen c2 hp2 (free_pen c3 hp3 (c4.free hl)))
  have lt5 : LT K H5 l [upto nn] := ⟨[(t0, upto nn)], e5, fun b hb => by rw [List.mem_singleton.mp hb]; exact c5.sqt e4, rfl⟩
  walk_at "rd"
  refine w_rngN (n := m - 1) (by omega) (by omega) ?_
  refine w_forR (fun i σ' H' => ∃ (fs : List (List Int)) (o6 o7 o8 o9 oa : Option V), Ch [p] H H' ∧ Pen K H' p (n + 2 + 12 * i) ∧ LT K H' l fs ∧ 1 ≤ fs.length ∧ fs.length ≤ i + 1 ∧ fs.Nodup ∧ (∀ f ∈ fs, RowOk nn f) ∧
      σ' = [some (.ref p), some (.int m), some (.int nn), some (.int bd), some (.int way), some (.ref l), o6, o7, o8, o9, oa])
    ⟨[upto nn], none, none, none, none, none, cH5, hp5, lt5, by simp, by simp, by simp, fun f hf => ?_, rfl⟩ ?_ ?_
  · rw [List.mem_singleton.mp hf]
    exact ⟨upto_len nn, upto_rise nn, fun x hx => by have := upto_mem hx; omega⟩
  · rintro i σ' H6 hi ⟨fs, o6, o7, o8, o9, oa, c6, hp6, lt6, f0, f1, fnd, fok, rfl⟩
    dsimp only [List.set_cons_zero, List.set_cons_succ]
    walk_at "rd"
    refine w_rgL (n := bd) rfl (by omega) fun lr H7 hlr c7 e7 => ?_
    have lt7 := lt6.keep c7
    walk_at "rd"
    refine ⟨p, lr, _, nn, n + 2 + 12 * i, rfl, hp6.keep c7, by omega, SqL.of e7, by rw [List.length_map, upto_len]; omega, by rw [List.length_map, upto_len]; omega, fun row ys zs H8 hrow pm hys c8 hp8 e8 => ?_⟩
    obtain ⟨rs, rfl, rin, _⟩ := perm_ints pm
    rw [List.length_map] at hys
    have lt8 : LT K H8 l fs := lt7.but c8 npl.symm
    have cH8 : Ch [p] H H8 := (c6.trans c7.wide).trans c8
    walk_at "rd"
    refine w_cut (RowM K H p l fs (n + 2 + 12 * i + nn + 5) m nn bd i way) ?_ ?_
    · walk_at "rd"
      refine w_ite (fun hw => ?_) (fun hw => ?_)
      · walk_at "rd"
        refine w_lenLT lt8 ?_
        walk_at "rd"
        refine ⟨p, _, _, rfl, hp8, by omega, by omega, by omega, fun d H9 d0 d1 c9 hp9 => ?_⟩
        have lt9 := lt8.but c9 npl.symm
        refine w_ixLT (k := d.toNat) lt9 (by omega) (by omega) fun old ho => ?_
        have fo : RowOk nn (fs.getD d.toNat []) := fok _ (by rw [List.getD_eq_getElem?_getD, List.getElem?_eq_getElem (by omega)]; exact List.getElem_mem _)
        generalize fs.getD d.toNat [] = fo' at ho fo
        walk_at "rd"
        refine ⟨p, _, _, rfl, hp9, by omega, by omega, by omega, fun at' Ha a0 a1 ca hpa => ?_⟩
        walk_at "rd"
        refine ⟨p, _, _, rfl, hpa, by omega, by omega, by omega, fun fr Hb fr0 fr1 cb hpb => ?_⟩
        walk_at "rd"
        refine w_newA (by show 2 ≤ sizeLine; decide) fun q2 Hc hq2 cc ec => ?_
        have hpc := hpb.keep cc
        have lt12 := ((lt9.but ca npl.symm).but cb npl.symm).keep cc
        have ho12 := cc.sqt (cb.sqt (ca.sqt ho))
        have cH12 : Ch [p] H Hc := (((cH8.trans c9).trans ca).trans cb).trans cc.wide
        have npq : p ≠ q2 := hpb.ne hq2
        walk_at "rd"
        refine w_goB (fun _ Hd => Ch [p] Hc Hd ∧ Pen K Hd p (n + 2 + 12 * i + nn + 5)) (fun _ => ⟨.refl, hpc.le (by omega)⟩) (fun _ go => ?_) ?_
        · walk_at "rd"
          refine ⟨p, _, _, rfl, hpc, by omega, by decide, by decide, fun g Hd g0 g1 cd hpd => ?_⟩
          refine w_c (w_gt ?_)
          exact go _ Hd ⟨cd, hpd.le (by omega)⟩
        · rintro bo Hd ⟨cd, hpd⟩
          have ed := cd.but ec npq.symm
          have ltd := lt12.but cd npl.symm
          have hod := cd.sqt ho12
          obtain ⟨fx, hfx, fx0, fx1⟩ : ∃ fx : Int, atI [V.int fr, V.int ((bd : Int) + (i : Int))] (if bo = true then 1 else 0) = some (.int fx) ∧ 0 ≤ fx ∧ fx < 80 := by
            cases bo
            · exact ⟨fr, rfl, by omega, by omega⟩
            · exact ⟨(bd : Int) + i, rfl, by omega, by omega⟩
          walk_at "rd"
          refine w_ixL (SqL.of ed) hfx ?_
          walk_at "rd"
          refine w_slA hod fun u1 He ce ee => ?_
          rw [show at' = ((at'.toNat : Nat) : Int) by omega, cut_take (by rw [List.length_map, fo.1]; omega)] at ee
          walk_at "rd"
          refine w_slA (ce.sqt hod) fun u2 Hf cf ef => ?_
          rw [show at' + 1 = ((at'.toNat + 1 : Nat) : Int) by omega, cut_drop (by rw [List.length_map, fo.1]; omega)] at ef
          walk_at "rd"
          refine w_catA (cf.sqt ee) ef (by rw [sizeLine_eq, List.length_take, List.length_drop, List.length_map, fo.1]; omega) fun u3 Hg cg eg => ?_
          walk_at "rd"
          refine w_newT (K := K) (by show 1 ≤ sizeLine; decide) fun u4 Hh ch eh => ?_
          refine w_catA (ch.sqt eg) eh (by rw [sizeLine_eq, List.length_append, List.length_take, List.length_drop, List.length_map, fo.1]; show _ + 1 ≤ _; omega) fun u5 Hi ci ei => ?_
          walk_at "rd"
          have cdi : Ch [] Hd Hi := (((ce.trans cf).trans cg).trans ch).trans ci
          refine ⟨(cH12.trans cd).trans cdi.wide, hpd.keep cdi, ltd.keep cdi, u5, fo'.take at'.toNat ++ fo'.drop (at'.toNat + 1) ++ [fx], _, _, _, .inr ?_, ?_, fun x hx => ?_, rfl⟩
          · rw [List.map_append, List.map_append, List.map_take, List.map_drop]
            exact ei
          · rw [List.length_append, List.length_append, List.length_take, List.length_drop, fo.1]
            show _ + 1 ≤ 6
            omega
          · rcases List.mem_append.mp hx with h | h
            · rcases List.mem_append.mp h with h | h
              · exact fo.2.2 x (List.mem_of_mem_take h)
              · exact fo.2.2 x (List.mem_of_mem_drop h)
            · rw [List.mem_singleton.mp h]
              exact ⟨fx0, fx1⟩
      · walk_at "rd"
        exact ⟨cH8, hp8.le (by omega), lt8, row, rs, _, _, _, .inl (SqL.of e8), by omega, fun x hx => by have := upto_mem (rin x hx); omega, rfl⟩
    · rintro σ' H9 ⟨c9, hp9, lt9, row, rs, o8, o9, oa, hrow, hrl, hrb, rfl⟩
      walk_at "rd"
      refine w_setSE hrow (by omega) fun sa sc Ha hsc hsa ca ea => ?_
      walk_at "rd"
      refine w_sortSet ea (by omega) fun ms ml Hb hr hml hmn cb eb => ?_
      walk_at "rd"
      refine w_tupOf (SqL.of eb) fun tt Hc cc ec => ?_
      have c9c : Ch [] H9 Hc := (ca.trans cb).trans cc
      have ltc := lt9.keep c9c
      have hpc := hp9.keep c9c
      have cHc : Ch [p] H Hc := c9.trans c9c.wide
      walk_at "rd"
      refine w_ite (fun hz => ?_) (fun hz => ?_)
      · walk_at "rd"
        refine w_ninD ec ltc ?_
        walk_at "rd"
        refine w_itn (fun hn => ?_) (fun hn => ?_)
        · walk_at "rd"
          refine w_tyLT ltc ?_
          walk_at "rd"
          refine w_appLT ltc ec (by omega) fun Hd cd ld => ?_
          rw [List.length_map] at hz
          refine ⟨fs ++ [ms], _, _, _, _, _, Ch.old cHc hl0 cd, (hpc.but cd npl).le (by omega), ld, by simp, by simp; omega, ?_, fun f hf => ?_, rfl⟩
          · rw [List.nodup_append]
            refine ⟨fnd, by simp, fun a ha b hb => ?_⟩
            rw [List.mem_singleton.mp hb]
            rintro rfl
            exact hn ha
          · rcases List.mem_append.mp hf with h | h
            · exact fok f h
            · rw [List.mem_singleton.mp h]
              exact ⟨by omega, hr.1, fun x hx => hrb x ((hr.2 x).mp hx)⟩
        · walk_at "rd"
          exact ⟨fs, _, _, _, _, _, cHc, hpc.le (by omega), ltc, f0, by omega, fnd, fok, rfl⟩
      · walk_at "rd"
        exact ⟨fs, _, _, _, _, _, cHc, hpc.le (by omega), ltc, f0, by omega, fnd, fok, rfl⟩
  · rintro σ' H6 ⟨fs, o6, o7, o8, o9, oa, c6, hp6, lt6, f0, f1, fnd, fok, rfl⟩
    walk_at "rd"
    refine w_lenLT lt6 ?_
    walk_at "rd"
    obtain ⟨bs, e6, ht6, rfl⟩ := lt6
    rw [List.length_map] at f0 f1
    refine ⟨p, l, _, bs.length, _, by rw [List.length_map]; rfl, hp6, by omega, SqL.of e6, by rw [List.length_map]; omega, by rw [List.length_map]; omega, fun f ys zs H7 hf pm hys c7 hp7 e7 => ?_⟩
    have hz : zs = [] := by
      have := pm.length_eq
      rw [List.length_append, List.length_map] at this
      exact List.eq_nil_of_length_eq_zero (by omega)
    subst hz
    rw [List.append_nil] at pm
    obtain ⟨bs', p', rfl⟩ := perm_refs pm bs rfl
    have pm2 : (bs'.map (·.2)).Perm (bs.map (·.2)) := p'.map _
    refine k f (bs'.map (·.2)) H7 (free_pen c6 hp6 hf) ?_ ?_ (pm2.nodup_iff.mpr fnd) (fun g hg => fok g (pm2.mem_iff.mp hg)) (c6.trans c7) (hp7.le (by omega)) ⟨bs', e7, fun b hb => c7.sqt (ht6 b (p'.mem_iff.mp hb)), rfl⟩
    · rw [List.length_map, p'.length_eq]
      exact f0
    · rw [List.length_map, p'.length_eq]
      omega

/-! ### shapes -/
def PieceOk (nn : Nat) (f : List Int) : Prop := f.length = nn ∧ f.Pairwise (· < ·) ∧ ∀ x ∈ f, x.natAbs < 10 ^ 40
def sp_lshape (K : PySem.W.Frag) : Sp := fun vs H Q _ => ∃ (p : Addr) (m n : Nat), vs = [.ref p, .int m] ∧ Pen K H p n ∧ n < 999900000 ∧ 1 ≤ m ∧ m ≤ 50 ∧
  ∀ t (ps : List (List Int)) (nn : Nat) H', 1 ≤ nn → nn ≤ 6 → 1 ≤ ps.length → ps.length ≤ m → (∀ f ∈ ps, PieceOk nn f) → Ch [p] H H' → Pen K H' p (n + 1010) → Shp K H' t ps → Q (.ref t) H'
def t_lshape (K : PySem.W.Frag) : TS :=
    (tSeq (tAsg (tOp (rIxL K) (tLst (tCons (tC (.int 2)) (tCons (tC (.int 3)) (tCons (tC (.int 3)) (tCons (tC (.int 4)) (tCons (tC (.int 1)) (tCons (tC (.int 2)) (tCons (tC (.int 5)) (tCons (tC (.int 6)) tNil))))))))) (tCall (sp_ldraw K) [] E0 (tCons (tVar 0) (tCons (tC (.int 8)) tNil)))) (gName 2))
    (tSeq (tAsg (tCall (sp_lrows K) [] E0 (tCons (tVar 0) (tCons (tOp rAdd (tC (.int 1)) (tCall (sp_ldraw K) [] E0 (tCons (tVar 0) (tCons (tVar 1) tNil)))) (tCons (tVar 2) tNil)))) (gName 3))
    (tSeq (tAsg (tCall (sp_lcorners K) [] E0 (tCons (tVar 0) (tCons (tOp rAdd (tC (.int 1)) (tCB (rMax K) (tCons (tLc (iList K (tVar 3)) (gName 5) tYes (tOp (rIxT K) (tVar 5) (tOp rSub (tVar 2) (tC (.int 1)))) [5]) tNil))) tNil))) (gName 4))
    (tRet (tCB (rTupOf K) (tCons (tLc (iList K (tVar 3)) (gName 5) tYes (tCB (rTupOf K) (tCons (tLc (iTup K (tVar 5)) (gName 6) tYes (tOp (rIxL K) (tVar 4) (tVar 6)) [6]) tNil)) [5]) tNil))))))

theorem len_lshape (K : PySem.W.Frag) : ∀ vs H Q E, sp_lshape K vs H Q E → vs.length = 2 := by
  rintro vs H Q E ⟨p, m, n, rfl, _⟩
  rfl
theorem le_last : ∀ {f : List Int} {nn : Nat}, f.Pairwise (· < ·) → f.length = nn + 1 → ∀ x ∈ f, x ≤ f.getD nn 0
  | [], _, _, h, _, _ => by simp at h
  | [y], nn, _, h, x, hx => by
    have : nn = 0 := by simpa using h.symm
    subst this
    rw [List.mem_singleton.mp hx]
    exact Int.le_refl _
  | y :: z :: f, nn, hp, h, x, hx => by
    have h1 := List.pairwise_cons.mp hp
    obtain ⟨k, rfl⟩ : ∃ k, nn = k + 1 := ⟨nn - 1, by simp at h; omega⟩
    rw [List.getD_cons_succ]
    have h2 : (z :: f).length = k + 1 := by simpa using h
    rcases List.mem_cons.mp hx with rfl | hx
    · have := le_last h1.2 h2 z List.mem_cons_self
      have := h1.1 z List.mem_cons_self
      omega
    · exact le_last h1.2 h2 x hx
/-- names taken by places -/
def called (cs : List Int) (f : List Int) : List Int := f.map fun x => cs.getD x.toNat 0
theorem called_ok {cs f : List Int} {nn : Nat} (h1 : cs.Pairwise (· < ·)) (h2 : ∀ x ∈ cs, x.natAbs < 10 ^ 40) (hf : RowOk nn f) (hb : ∀ x ∈ f, x < cs.length) : PieceOk nn (called cs f) := by
  refine ⟨by rw [called, List.length_map]; exact hf.1, ?_, fun y hy => ?_⟩
  · unfold called
    rw [List.pairwise_map]
    refine List.Pairwise.imp_of_mem (fun {a b} ha hb' h => ?_) hf.2.1
    have a0 := hf.2.2 a ha
    have a1 := hb a ha
    have b1 := hb b hb'
    rw [List.getD_eq_getElem?_getD, List.getElem?_eq_getElem (by omega), List.getD_eq_getElem?_getD, List.getElem?_eq_getElem (by omega)]
    exact List.pairwise_iff_getElem.mp h1 a.toNat b.toNat (by omega) (by omega) (by omega)
  · obtain ⟨x, hx, rfl⟩ := List.mem_map.mp hy
    have a0 := hf.2.2 x hx
    have a1 := hb x hx
    refine h2 _ ?_
    rw [List.getD_eq_getElem?_getD, List.getElem?_eq_getElem (by omega)]
    exact List.getElem_mem _
theorem rd_lshape {K : PySem.W.Frag} {H : Hp} {vs : List V} {Q : VK} {E : XK} {N : List Str} (h : sp_lshape K vs H Q E) (hN : N.length = 7 := by rfl) : t_lshape K { nx := fun _ H' => Q .non H', rt := Q } (start N vs) H := by
  obtain ⟨p, m, n, rfl, hp, nb, m0, m1, k⟩ := h
  refine w_start (σ := [some (.ref p), some (.int m), none, none, none, none, none]) (by simp [L2.start, hN]) ?_
  unfold t_lshape
  walk_at "rd"
  refine w_newA (by show 8 ≤ sizeLine; decide) fun q H1 hq c1 e1 => ?_
  walk_at "rd"
  refine ⟨p, _, n, rfl, hp.keep c1, by omega, by decide, by decide, fun r H2 r0 r1 c2 hp2 => ?_⟩
  have e2 := c2.but e1 (Ne.symm (hp.ne hq))
  obtain ⟨nn, hb, b0, b1⟩ : ∃ nn : Nat, atI [V.int 2, V.int 3, V.int 3, V.int 4, V.int 1, V.int 2, V.int 5, V.int 6] r = some (.int (nn : Int)) ∧ 1 ≤ nn ∧ nn ≤ 6 := by
    have : r = 0 ∨ r = 1 ∨ r = 2 ∨ r = 3 ∨ r = 4 ∨ r = 5 ∨ r = 6 ∨ r = 7 := by omega
    rcases this with rfl | rfl | rfl | rfl | rfl | rfl | rfl | rfl
    · exact ⟨2, rfl, by decide, by decide⟩
    · exact ⟨3, rfl, by decide, by decide⟩
    · exact ⟨3, rfl, by decide, by decide⟩
    · exact ⟨4, rfl, by decide, by decide⟩
    · exact ⟨1, rfl, by decide, by decide⟩
    · exact ⟨2, rfl, by decide, by decide⟩
    · exact ⟨5, rfl, by decide, by decide⟩
    · exact ⟨6, rfl, by decide, by decide⟩
  refine w_ixL (SqL.of e2) hb ?_
  walk_at "rd"
  refine ⟨p, _, n + 1, rfl, hp2, by omega, by omega, by omega, fun d H3 d0 d1 c3 hp3 => ?_⟩
  walk_at "rd"
  obtain ⟨mm, hmm⟩ : ∃ mm : Nat, 1 + d = (mm : Int) := ⟨(1 + d).toNat, by omega⟩
  rw [hmm]
  refine ⟨p, mm, nn, n + 2, rfl, hp3, by omega, by omega, by omega, b0, b1, fun l fs H4 hl f0 f1 fnd fok c4 hp4 lt4 => ?_⟩
  have cH4 : Ch [p] H H4 := ((c1.wide.trans c2).trans c3).trans c4
  obtain ⟨bs, e4, ht4, hbs⟩ := lt4
  have hbl : bs.length = fs.length := by rw [← hbs, List.length_map]
  have hget : ∀ (i : Nat) b, bs[i]? = some b → fs.getD i [] = b.2 := fun i b hi => by
    rw [← hbs, List.getD_eq_getElem?_getD, List.getElem?_map, hi]
    rfl
  have hin : ∀ b ∈ bs, b.2 ∈ fs := fun b hb => by rw [← hbs]; exact List.mem_map_of_mem hb
  walk_at "rd"
  refine w_goL (SqL.of e4) ?_
  refine w_lcLV (fun i => .int ((fs.getD i []).getD (nn - 1) 0)) (SqL.of e4) (fun _ => rfl) (by rw [List.length_map]; omega) (fun i x H5 Q' hx c5 k' => ?_) (fun ml H5 hml c5 e5 => ?_)
  · rw [List.getElem?_map] at hx
    obtain ⟨b, hb, rfl⟩ := Option.map_eq_some_iff.mp hx
    have hm := List.mem_of_getElem? hb
    dsimp only [wipe, List.set_cons_zero, List.set_cons_succ]
    walk_at "rd"
    refine w_ixTI (c5.sqt (ht4 b hm)) (by omega) (by rw [(fok _ (hin b hm)).1]; omega) ?_
    rw [show ((nn : Int) - 1).toNat = nn - 1 by omega, ← hget i b hb]
    exact k' H5 .refl
  rw [List.length_map, hbl, map_getDL fs (fun f => V.int (f.getD (nn - 1) 0)), show fs.map (fun f => V.int (f.getD (nn - 1) 0)) = (fs.map fun f => f.getD (nn - 1) 0).map V.int by rw [List.map_map]; rfl] at e5
  walk_at "rd"
  refine w_max (SqL.of e5) (by rw [List.length_map]; omega) fun mx hmx hle => ?_
  have mx01 : 0 ≤ mx ∧ mx < 80 := by
    obtain ⟨f, hf, rfl⟩ := List.mem_map.mp hmx
    refine (fok f hf).2.2 _ ?_
    rw [List.getD_eq_getElem?_getD, List.getElem?_eq_getElem (by rw [(fok f hf).1]; omega)]
    exact List.getElem_mem _
  have hall : ∀ f ∈ fs, ∀ x ∈ f, x ≤ mx := fun f hf x hx => by
    have h1 := hle _ (List.mem_map_of_mem (f := fun f : List Int => f.getD (nn - 1) 0) hf)
    have h2 := le_last (nn := nn - 1) (fok f hf).2.1 (by rw [(fok f hf).1]; omega) x hx
    exact Int.le_trans h2 h1
  walk_at "rd"
  obtain ⟨mc, hmc⟩ : ∃ mc : Nat, 1 + mx = (mc : Int) := ⟨(1 + mx).toNat, by omega⟩
  rw [hmc]
  refine ⟨p, mc, n + 1002, rfl, hp4.keep c5, by omega, by omega, by omega, fun nl cs H6 hnl csl csr csb c6 hp6 e6 => ?_⟩
  have npl : l ≠ p := Ne.symm (hp3.ne hl)
  have e46 := c6.but (c5.lst e4) npl
  walk_at "rd"
  refine w_goL (SqL.of e46) ?_
  refine w_lcLT (fun i => called cs (fs.getD i [])) (SqL.of e46) (fun _ => rfl) (by rw [List.length_map]; omega) (fun i x H7 Q' hx c7 k' => ?_) (fun pl H7 hpl c7 lt7 => ?_)
  · rw [List.getElem?_map] at hx
    obtain ⟨b, hb, rfl⟩ := Option.map_eq_some_iff.mp hx
    have hm := List.mem_of_getElem? hb
    have hb7 := c7.sqt (c6.sqt (c5.sqt (ht4 b hm)))
    have e7 := c7.lst e6
    have hfb := hin b hm
    dsimp only [wipe, List.set_cons_zero, List.set_cons_succ]
    walk_at "rd"
    refine w_goT hb7 ?_
    refine w_lcTV (fun j => .int (cs.getD (b.2.getD j 0).toNat 0)) hb7 (fun _ => rfl) (by rw [List.length_map, (fok _ hfb).1]; omega) (fun j x H8 Q'' hx c8 k'' => ?_) (fun tl H8 htl c8 e8 => ?_)
    · obtain ⟨hj, rfl⟩ := int_at hx
      dsimp only [wipe, List.set_cons_zero, List.set_cons_succ]
      have hx : b.2.getD j 0 ∈ b.2 := by rw [List.getD_eq_getElem?_getD, List.getElem?_eq_getElem hj]; exact List.getElem_mem _
      have h1 := hall _ hfb _ hx
      have h2 := (fok _ hfb).2.2 _ hx
      walk_at "rd"
      refine w_ixLI (SqL.of (c8.lst e7)) (by omega) (by omega) ?_
      exact k'' H8 .refl
    · rw [List.length_map, map_getD b.2 (fun x => V.int (cs.getD x.toNat 0)), show b.2.map (fun x => V.int (cs.getD x.toNat 0)) = (called cs b.2).map V.int by rw [called, List.map_map]; rfl] at e8
      walk_at "rd"
      refine w_tupOf (SqL.of e8) fun u H9 c9 e9 => k' u H9 (c8.trans c9) ?_
      rw [hget i b hb]
      exact e9
  · rw [List.length_map, hbl, map_getDL fs (called cs)] at lt7
    walk_at "rd"
    refine w_shape lt7 fun t H8 c8 s8 => ?_
    refine k t _ nn H8 b0 b1 (by rw [List.length_map]; omega) (by rw [List.length_map]; omega) (fun f hf => ?_) ((cH4.trans c5.wide).trans (c6.trans (c7.trans c8).wide)) (((hp6.keep c7).keep c8).le (by omega)) s8
    obtain ⟨g, hg, rfl⟩ := List.mem_map.mp hf
    exact called_ok csr csb (fok g hg) fun x hx => by have := hall g hg x hx; omega
/-! ### what is asked: a piece, and some of the others, laid -/
def sp_lasked (K : PySem.W.Frag) : Sp := fun vs H Q _ => ∃ (p t : Addr) (ps : List (List Int)) (n : Nat), vs = [.ref p, .ref t] ∧ Pen K H p n ∧ n < 999900000 ∧ Shp K H t ps ∧ 1 ≤ ps.length ∧ ps.length ≤ 50 ∧
  ∀ l la (k : Nat) (laid : List Int) H', H la = none → k < ps.length → laid.length ≤ 50 → (∀ x ∈ laid, 0 ≤ x ∧ x < ps.length ∧ x ≠ k) → laid.Nodup → Ch [p] H H' → Pen K H' p (n + 60) → H' l = some (.lst [.int k, .ref la]) → H' la = some (.lst (laid.map V.int)) → Q (.ref l) H'
def t_lasked (K : PySem.W.Frag) : TS :=
    (tSeq (tAsg (tCall (sp_ldraw K) [] E0 (tCons (tVar 0) (tCons (tCB (rLenL K) (tCons (tVar 1) tNil)) tNil))) (gName 2))
    (tSeq (tAsg (tLc (iRng1 (tCons (tCB (rLenL K) (tCons (tVar 1) tNil)) tNil)) (gName 4) (tTest (tOp rNe (tVar 4) (tVar 2))) (tVar 4) [4]) (gName 3))
    (tRet (tLst (tCons (tVar 2) (tCons (tCall (sp_lpicked K) [] E0 (tCons (tVar 0) (tCons (tVar 3) (tCons (tCall (sp_ldraw K) [] E0 (tCons (tVar 0) (tCons (tOp rAdd (tCB (rLenL K) (tCons (tVar 3) tNil)) (tC (.int 1))) tNil))) tNil)))) tNil))))))

theorem len_lasked (K : PySem.W.Frag) : ∀ vs H Q E, sp_lasked K vs H Q E → vs.length = 2 := by
  rintro vs H Q E ⟨p, m, n, _, rfl, _⟩
  rfl
theorem rd_lasked {K : PySem.W.Frag} {H : Hp} {vs : List V} {Q : VK} {E : XK} {N : List Str} (h : sp_lasked K vs H Q E) (hN : N.length = 5 := by rfl) : t_lasked K { nx := fun _ H' => Q .non H', rt := Q } (start N vs) H := by
  obtain ⟨p, t, ps, n, rfl, hp, nb, hs, s0, s1, kk⟩ := h
  refine w_start (σ := [some (.ref p), some (.ref t), none, none, none]) (by simp [L2.start, hN]) ?_
  unfold t_lasked
  obtain ⟨xs, hx, hxl⟩ := hs.len
  walk_at "rd"
  refine ⟨p, _, n, rfl, hp, by omega, by omega, by omega, fun r H1 r0 r1 c1 hp1 => ?_⟩
  have hx1 := c1.sqt hx
  obtain ⟨k, rfl⟩ : ∃ k : Nat, r = (k : Int) := ⟨r.toNat, by omega⟩
  walk_at "rd"
  refine w_rngN (n := ps.length) (by omega) (by omega) ?_
  refine w_lcRF (fun x => !decide (x = (k : Int))) (fun _ => rfl) (by omega) (fun i H2 QB hi c2 q => ?_) (fun z H2 Q' q => ?_) (fun ol H2 hol c2 e2 => ?_)
  · dsimp only [wipe, List.set_cons_zero, List.set_cons_succ]
    walk_at "rd"
    exact q
  · dsimp only [wipe, List.set_cons_zero, List.set_cons_succ]
    walk_at "rd"
    exact q
  have hol2 : ((upto ps.length).filter fun x => !decide (x = (k : Int))).length ≤ ps.length := Nat.le_trans (List.length_filter_le _ _) (by rw [upto_len]; exact Nat.le_refl _)
  have hmem : ∀ x ∈ (upto ps.length).filter (fun x => !decide (x = (k : Int))), 0 ≤ x ∧ x < ps.length ∧ x ≠ k := fun x hx => by
    obtain ⟨h1, h2⟩ := List.mem_filter.mp hx
    have := upto_mem h1
    exact ⟨this.1, this.2, by simpa using h2⟩
  have hnd : ((upto ps.length).filter fun x => !decide (x = (k : Int))).Nodup := List.Nodup.sublist List.filter_sublist ((upto_rise _).imp fun {a b} h => by omega)
  generalize (upto ps.length).filter (fun x => !decide (x = (k : Int))) = os at e2 hol2 hmem hnd
  walk_at "rd"
  refine ⟨p, _, n + 1, rfl, hp1.keep c2, by omega, by omega, by rw [List.length_map]; omega, fun d H3 d0 d1 c3 hp3 => ?_⟩
  have e3 := c3.but e2 (Ne.symm (hp1.ne hol))
  rw [List.length_map] at d1
  obtain ⟨dd, rfl⟩ : ∃ dd : Nat, d = (dd : Int) := ⟨d.toNat, by omega⟩
  walk_at "rd"
  refine ⟨p, ol, _, dd, n + 2, rfl, hp3, by omega, SqL.of e3, by rw [List.length_map]; omega, by rw [List.length_map]; omega, fun f ys zs H4 hf pm hys c4 hp4 e4 => ?_⟩
  obtain ⟨ls, rfl, lin, lnd⟩ := perm_ints pm
  rw [List.length_map] at hys
  walk_at "rd"
  refine w_newA (by show 2 ≤ sizeLine; decide) fun l H5 hl c5 e5 => ?_
  exact kk l f k ls H5 (free_pen c1 hp1 (c2.free (free_pen c3 hp3 hf))) (by omega) (by omega) (fun x hx => hmem x (lin x hx)) (lnd hnd) (((c1.trans c2.wide).trans c3).trans (c4.trans c5.wide)) ((hp4.keep c5).le (by omega)) e5 (c5.lst e4)

/-! ### lies_in, common -/
def lies (f g : List Int) : Bool := f.all fun x => decide (x ∈ g)
def comm (f g : List Int) : List Int := f.filter fun x => decide (x ∈ g)
def sp_lies_in (K : PySem.W.Frag) : Sp := fun vs H Q _ => ∃ (a b : Addr) (f g : List Int), vs = [.ref a, .ref b] ∧ SqT K H a (f.map V.int) ∧ SqT K H b (g.map V.int) ∧ f.length ≤ 1000 ∧ ∀ H', Ch [] H H' → Q (.bl (lies f g)) H'
def t_lies_in (K : PySem.W.Frag) : TS :=
    (tRet (tCB (rAll K) (tCons (tLc (iTup K (tVar 0)) (gName 2) tYes (tOp (rIn K false) (tVar 2) (tVar 1)) [2]) tNil)))

theorem len_lies_in (K : PySem.W.Frag) : ∀ vs H Q E, sp_lies_in K vs H Q E → vs.length = 2 := by
  rintro vs H Q E ⟨p, m, n, _, rfl, _⟩
  rfl
theorem all_map_id (f : List Int) (g : Int → Bool) : (f.map g).all id = f.all g := by
  rw [List.all_map]
  rfl
theorem any_map_id {α : Type} (f : List α) (g : α → Bool) : (f.map g).any id = f.any g := by
  rw [List.any_map]
  rfl
theorem rd_lies_in {K : PySem.W.Frag} {H : Hp} {vs : List V} {Q : VK} {E : XK} {N : List Str} (h : sp_lies_in K vs H Q E) (hN : N.length = 3 := by rfl) : t_lies_in K { nx := fun _ H' => Q .non H', rt := Q } (start N vs) H := by
  obtain ⟨a, b, f, g, rfl, ha, hb, hz, k⟩ := h
  refine w_start (σ := [some (.ref a), some (.ref b), none]) (by simp [L2.start, hN]) ?_
  unfold t_lies_in
  walk_at "rd"
  refine w_goT ha ?_
  refine w_lcTV (fun i => .bl (decide (f.getD i 0 ∈ g))) ha (fun _ => rfl) (by rw [List.length_map]; omega) (fun i x H1 Q' hx c1 k' => ?_) (fun l H1 hl c1 e1 => ?_)
  · obtain ⟨hi, rfl⟩ := int_at hx
    have hb1 := c1.sqt hb
    dsimp only [wipe, List.set_cons_zero, List.set_cons_succ]
    walk_at "rd"
    exact k' H1 .refl
  · rw [List.length_map, map_getD f (fun x => V.bl (decide (x ∈ g))), show f.map (fun x => V.bl (decide (x ∈ g))) = (f.map fun x => decide (x ∈ g)).map V.bl by rw [List.map_map]; rfl] at e1
    walk_at "rd"
    refine w_all (SqL.of e1) ?_
    rw [all_map_id]
    exact k H1 c1
def sp_common (K : PySem.W.Frag) : Sp := fun vs H Q _ => ∃ (a b : Addr) (f g : List Int), vs = [.ref a, .ref b] ∧ SqT K H a (f.map V.int) ∧ SqT K H b (g.map V.int) ∧ f.length ≤ 1000 ∧ ∀ u H', Ch [] H H' → SqT K H' u ((comm f g).map V.int) → Q (.ref u) H'
def t_common (K : PySem.W.Frag) : TS :=
    (tRet (tCB (rTupOf K) (tCons (tLc (iTup K (tVar 0)) (gName 2) (tTest (tOp (rIn K false) (tVar 2) (tVar 1))) (tVar 2) [2]) tNil)))

theorem len_common (K : PySem.W.Frag) : ∀ vs H Q E, sp_common K vs H Q E → vs.length = 2 := by
  rintro vs H Q E ⟨p, m, n, _, rfl, _⟩
  rfl
theorem rd_common {K : PySem.W.Frag} {H : Hp} {vs : List V} {Q : VK} {E : XK} {N : List Str} (h : sp_common K vs H Q E) (hN : N.length = 3 := by rfl) : t_common K { nx := fun _ H' => Q .non H', rt := Q } (start N vs) H := by
  obtain ⟨a, b, f, g, rfl, ha, hb, hz, k⟩ := h
  refine w_start (σ := [some (.ref a), some (.ref b), none]) (by simp [L2.start, hN]) ?_
  unfold t_common
  walk_at "rd"
  refine w_goT ha ?_
  refine w_lcTF (fun x => decide (x ∈ g)) ha (fun _ => rfl) (by omega) (fun i H1 QB hi c1 q => ?_) (fun z H1 Q' q => ?_) (fun l H1 hl c1 e1 => ?_)
  · have hb1 := c1.sqt hb
    dsimp only [wipe, List.set_cons_zero, List.set_cons_succ]
    walk_at "rd"
    exact q
  · dsimp only [wipe, List.set_cons_zero, List.set_cons_succ]
    walk_at "rd"
    exact q
  · walk_at "rd"
    exact w_tupOf (SqL.of e1) fun u H2 c2 e2 => k u H2 (c1.trans c2) e2
/-! ### shared: the greatest of what is in common -/
/-- a laid piece -/
def pc (ps : List (List Int)) (o : Int) : List Int := ps.getD o.toNat []
/-- what is in common, each once, rising -/
def Cm (ps : List (List Int)) (laid : List Int) (k : Nat) (fs : List (List Int)) : Prop := fs.Pairwise (· < ·) ∧ ∀ f, f ∈ fs ↔ ∃ o ∈ laid, f = comm (ps.getD k []) (pc ps o)
/-- the greatest of them -/
def top (fs : List (List Int)) : List (List Int) := fs.filter fun f => !fs.any fun g => !decide (f = g) && lies f g
def sp_shared (K : PySem.W.Frag) : Sp := fun vs H Q _ => ∃ (t la : Addr) (ps : List (List Int)) (laid : List Int) (k : Nat), vs = [.ref t, .ref la, .int k] ∧ Shp K H t ps ∧ SqL K H la (laid.map V.int) ∧ laid.length ≤ 60 ∧ k < ps.length ∧
  (∀ o ∈ laid, 0 ≤ o ∧ o < ps.length) ∧ (∀ f ∈ ps, f.length ≤ 1000) ∧ ∀ l fs H', Cm ps laid k fs → fs.length < 64 → H l = none → Ch [] H H' → LT K H' l (top fs) → Q (.ref l) H'
def t_shared (K : PySem.W.Frag) (P : Program) (w : World) : TS :=
    (tSeq (tAsg (tCB (rSortSetT K P w) (tCons (tCB (rSetOfT K P w) (tCons (tLc (iList K (tVar 1)) (gName 6) tYes (tCall (sp_common K) [] E0 (tCons (tOp (rIxT K) (tVar 0) (tVar 2)) (tCons (tOp (rIxT K) (tVar 0) (tVar 6)) tNil))) [6]) tNil)) tNil)) (gName 3))
    (tSeq (tAsg (tLst tNil) (gName 4))
    (tSeq (tFor (iList K (tVar 3)) (gName 5)
    (tIfS (tNot (tB (tCB (rAny K) (tCons (tLc (iList K (tVar 3)) (gName 6) tYes (tAndV (tOp (rNeD K) (tVar 5) (tVar 6)) (tCall (sp_lies_in K) [] E0 (tCons (tVar 5) (tCons (tVar 6) tNil)))) [6]) tNil)))) (tDrop (tBM K "list" rAppend (tVar 4) (tCons (tVar 5) tNil))) tNext))
    (tRet (tVar 4)))))

theorem len_shared (K : PySem.W.Frag) : ∀ vs H Q E, sp_shared K vs H Q E → vs.length = 3 := by
  rintro vs H Q E ⟨p, m, n, _, _, rfl, _⟩
  rfl
theorem pc_mem {ps : List (List Int)} {o : Int} (h : 0 ≤ o ∧ o < ps.length) : pc ps o ∈ ps := by
  unfold pc
  rw [List.getD_eq_getElem?_getD, List.getElem?_eq_getElem (by omega)]
  exact List.getElem_mem _
theorem take_filterL {fs : List (List Int)} {p : List Int → Bool} {i : Nat} (h : i < fs.length) : (fs.take (i + 1)).filter p = (fs.take i).filter p ++ if p (fs.getD i []) = true then [fs.getD i []] else [] := by
  have e : (fs[i]?).toList = [fs.getD i []] := by rw [List.getD_eq_getElem?_getD, List.getElem?_eq_getElem h]; rfl
  rw [List.take_add_one, List.filter_append, e]
  congr 1
  by_cases c : p (fs.getD i []) = true
  · rw [if_pos c, List.filter_cons_of_pos c, List.filter_nil]
  · rw [if_neg c, List.filter_cons_of_neg c, List.filter_nil]
theorem rd_shared {K : PySem.W.Frag} {P : Program} {w : World} {H : Hp} {vs : List V} {Q : VK} {E : XK} {N : List Str} (h : sp_shared K vs H Q E) (hN : N.length = 7 := by rfl) : t_shared K P w { nx := fun _ H' => Q .non H', rt := Q } (start N vs) H := by
  obtain ⟨t, la, ps, laid, k, rfl, hs, hla, hz, hk, ho, hps, kk⟩ := h
  refine w_start (σ := [some (.ref t), some (.ref la), some (.int k), none, none, none, none]) (by simp [L2.start, hN]) ?_
  unfold t_shared
  have hpk : ps.getD k [] ∈ ps := by
    rw [List.getD_eq_getElem?_getD, List.getElem?_eq_getElem hk]
    exact List.getElem_mem _
  have hpl := hps _ hpk
  walk_at "rd"
  refine w_goL hla ?_
  refine w_lcLT (fun i => comm (ps.getD k []) (pc ps (laid.getD i 0))) hla (fun _ => rfl) (by rw [List.length_map]; omega) (fun i x H1 Q' hx c1 k' => ?_) (fun cl H1 hcl c1 lt1 => ?_)
  · obtain ⟨hi, rfl⟩ := int_at hx
    have hol := ho (laid.getD i 0) (by rw [List.getD_eq_getElem?_getD, List.getElem?_eq_getElem hi]; exact List.getElem_mem _)
    dsimp only [wipe, List.set_cons_zero, List.set_cons_succ]
    walk_at "rd"
    refine w_ixShp (hs.keep c1) rfl hk fun u hu => ?_
    walk_at "rd"
    refine w_ixShp (k := (laid.getD i 0).toNat) (hs.keep c1) (by omega) (by omega) fun v hv => ?_
    walk_at "rd"
    exact ⟨u, v, _, _, rfl, hu, hv, hpl, fun z H2 c2 e2 => k' z H2 c2 e2⟩
  rw [List.length_map, map_getD laid (fun o => comm (ps.getD k []) (pc ps o))] at lt1
  obtain ⟨bs, e1, ht1, hb1⟩ := lt1
  have hbl : bs.length = laid.length := by rw [← List.length_map (as := bs) (f := (·.2)), hb1, List.length_map]
  walk_at "rd"
  refine w_setOfT (SqL.of e1) ht1 (by omega) fun sa L H2 hsa hL1 hL2 c2 e2 => ?_
  have htL : ∀ b ∈ L, SqT K H2 b.1 (b.2.map V.int) := fun b hb => c2.sqt (ht1 b (hL1 b hb))
  walk_at "rd"
  refine w_sortSetT e2 htL fun fl fs H3 hfl c3 fp fln fm lt3 => ?_
  have cm : Cm ps laid k fs := by
    refine ⟨fp, fun f => (fm f).trans ⟨fun h => ?_, fun ⟨o, ho, e⟩ => ?_⟩⟩
    · obtain ⟨b, hb, rfl⟩ := List.mem_map.mp h
      have : b.2 ∈ bs.map (·.2) := List.mem_map_of_mem (hL1 b hb)
      rw [hb1] at this
      obtain ⟨o, ho, e⟩ := List.mem_map.mp this
      exact ⟨o, ho, e.symm⟩
    · have : f ∈ bs.map (·.2) := by
        rw [hb1, e]
        exact List.mem_map_of_mem ho
      obtain ⟨b, hb, rfl⟩ := List.mem_map.mp this
      exact hL2 b hb
  have ff : ∀ f ∈ fs, f.length ≤ 1000 := fun f hf => by
    obtain ⟨o, _, rfl⟩ := (cm.2 f).mp hf
    exact Nat.le_trans (List.length_filter_le _ _) hpl
  walk_at "rd"
  refine w_newA (by show 0 ≤ sizeLine; decide) fun gl H4 hgl c4 e4 => ?_
  have lt4 := lt3.keep c4
  have nfg : fl ≠ gl := lt3.ne hgl
  have cH4 : Ch [] H H4 := ((c1.trans c2).trans c3).trans c4
  have hg0 : H gl = none := c1.free (c2.free (c3.free hgl))
  have g4 : LT K H4 gl [] := ⟨[], e4, (fun _ h => nomatch h), rfl⟩
  obtain ⟨ds, ed, hd, hds⟩ := lt4
  walk_at "rd"
  refine w_goL (SqL.of ed) ?_
  refine w_forL (xs := ds.map fun b => V.ref b.1) (fun i σ' H' => Ch [gl] H4 H' ∧ LT K H' gl ((fs.take i).filter fun f => !fs.any fun g => !decide (f = g) && lies f g) ∧ ∃ o5 o6, σ' = [some (.ref t), some (.ref la), some (.int k), some (.ref fl), some (.ref gl), o5, o6])
    ⟨.refl, g4, none, none, rfl⟩ (fun i σ' H' _ m => SqL.of (m.1.but ed nfg)) ?_ ?_
  · rintro i x σ' H5 hx ⟨c5, g5, o5, o6, rfl⟩
    rw [List.getElem?_map] at hx
    obtain ⟨b, hb, rfl⟩ := Option.map_eq_some_iff.mp hx
    have hm := List.mem_of_getElem? hb
    have hi : i < fs.length := by
      have := (List.getElem?_eq_some_iff.mp hb).1
      rw [← hds, List.length_map]
      exact this
    have hfi : fs.getD i [] = b.2 := by
      rw [← hds, List.getD_eq_getElem?_getD, List.getElem?_map, hb]
      rfl
    have hb5 := c5.sqt (hd b hm)
    have ed5 := c5.but ed nfg
    walk_at "rd"
    refine w_goL (SqL.of ed5) ?_
    refine w_lcLV (fun j => .bl (!decide (b.2 = fs.getD j []) && lies b.2 (fs.getD j []))) (SqL.of ed5) (fun _ => rfl) (by rw [List.length_map, ← List.length_map (as := ds) (f := (·.2)), hds]; omega) (fun j x H6 Q' hx c6 k' => ?_) (fun bl H6 hbl' c6 e6 => ?_)
    · rw [List.getElem?_map] at hx
      obtain ⟨d, hdj, rfl⟩ := Option.map_eq_some_iff.mp hx
      have hmd := List.mem_of_getElem? hdj
      have hfj : fs.getD j [] = d.2 := by
        rw [← hds, List.getD_eq_getElem?_getD, List.getElem?_map, hdj]
        rfl
      have hd6 := c6.sqt (c5.sqt (hd d hmd))
      have hb6 := c6.sqt hb5
      dsimp only [wipe, List.set_cons_zero, List.set_cons_succ]
      walk_at "rd"
      refine w_neT hb6 hd6 ?_
      rw [hfj] at k'
      walk_at "rd"
      refine w_itn (fun hne => ?_) (fun he => ?_)
      · walk_at "rd"
        refine ⟨b.1, d.1, _, _, rfl, hb6, hd6, ff _ (by rw [← hds]; exact List.mem_map_of_mem hm), fun H7 c7 => ?_⟩
        have := k' H7 c7
        rwa [decide_eq_false hne] at this
      · have := k' H6 .refl
        rwa [decide_eq_true he] at this
    · rw [List.length_map, ← List.length_map (as := ds) (f := (·.2)), hds, map_getDL fs (fun g => V.bl (!decide (b.2 = g) && lies b.2 g)), show fs.map (fun g => V.bl (!decide (b.2 = g) && lies b.2 g)) = (fs.map fun g => !decide (b.2 = g) && lies b.2 g).map V.bl by rw [List.map_map]; rfl] at e6
      walk_at "rd"
      refine w_any (SqL.of e6) ?_
      rw [any_map_id]
      have g6 := g5.keep c6
      have c46 : Ch [gl] H4 H6 := c5.trans c6.wide
      walk_at "rd"
      rw [take_filterL hi, hfi]
      cases ha : fs.any fun g => !decide (b.2 = g) && lies b.2 g with
      | false =>
        walk_at "rd"
        refine w_tyLT g6 ?_
        walk_at "rd"
        refine w_appLT g6 (c6.sqt hb5) ?_ fun H7 c7 g7 => ?_
        · have h1 := List.length_filter_le (fun f => !fs.any fun g => !decide (f = g) && lies f g) (fs.take i)
          rw [List.length_take] at h1
          omega
        · exact ⟨c46.trans c7, g7, _, _, rfl⟩
      | true =>
        walk_at "rd"
        refine ⟨c46, ?_, _, _, rfl⟩
        rw [if_neg (by simp), List.append_nil]
        exact g6
  · rintro σ' H5 ⟨c5, g5, o5, o6, rfl⟩
    rw [List.length_map, ← List.length_map (as := ds) (f := (·.2)), hds, List.take_length] at g5
    walk_at "rd"
    exact kk gl fs H5 cm fln hg0 (Ch.old cH4 hg0 c5) g5
/-- all choices of the first k -/
def subs (ns : List Int) : Nat → List (List Int)
  | 0 => [[]]
  | k + 1 => subs ns k ++ (subs ns k).map (· ++ [ns.getD k 0])
/-- the choice of the first k by bits -/
def sel (ns : List Int) (m : Nat) : Nat → List Int
  | 0 => []
  | k + 1 => if m / 2 ^ k % 2 = 1 then sel ns m k ++ [ns.getD k 0] else sel ns m k
theorem subs_len (ns : List Int) : ∀ k, (subs ns k).length = 2 ^ k
  | 0 => rfl
  | k + 1 => by
    rw [subs, List.length_append, List.length_map, subs_len ns k, Nat.pow_succ]
    omega
theorem sel_high (ns : List Int) (m k : Nat) : ∀ j, j ≤ k → sel ns (m + 2 ^ k) j = sel ns m j
  | 0, _ => rfl
  | j + 1, h => by
    have e : (m + 2 ^ k) / 2 ^ j % 2 = m / 2 ^ j % 2 := by
      obtain ⟨d, rfl⟩ : ∃ d, k = j + 1 + d := ⟨k - (j + 1), by omega⟩
      rw [show (2 : Nat) ^ (j + 1 + d) = 2 ^ j * (2 * 2 ^ d) by rw [Nat.pow_add, Nat.pow_succ, Nat.mul_assoc], Nat.add_mul_div_left _ _ (Nat.two_pow_pos j), Nat.add_mul_mod_self_left]
    rw [sel, sel, e, sel_high ns m k j (by omega)]
theorem sel_all (ns : List Int) : ∀ k, (List.range (2 ^ k)).map (fun m => sel ns m k) = subs ns k
  | 0 => rfl
  | k + 1 => by
    rw [show 2 ^ (k + 1) = 2 ^ k + 2 ^ k by rw [Nat.pow_succ]; omega, List.range_add, List.map_append, List.map_map, subs, ← sel_all ns k, List.map_map]
    congr 1
    · refine List.map_congr_left fun m hm => ?_
      have hm := List.mem_range.mp hm
      rw [sel, Nat.div_eq_of_lt hm, if_neg (by decide)]
    · refine List.map_congr_left fun m hm => ?_
      have hm := List.mem_range.mp hm
      show sel ns (2 ^ k + m) (k + 1) = sel ns m k ++ [ns.getD k 0]
      rw [Nat.add_comm, sel, Nat.add_div_right _ (Nat.two_pow_pos k), Nat.div_eq_of_lt hm, if_pos (by decide), sel_high ns m k k (Nat.le_refl _)]
theorem subs_mem {ns : List Int} : ∀ {k : Nat} {f : List Int}, k ≤ ns.length → f ∈ subs ns k → f.length ≤ k ∧ ∀ x ∈ f, x ∈ ns
  | 0, f, _, h => by
    simp only [subs, List.mem_singleton] at h
    subst h
    exact ⟨Nat.le_refl _, fun _ z => nomatch z⟩
  | k + 1, f, hk, h => by
    simp only [subs, List.mem_append, List.mem_map] at h
    rcases h with h | ⟨g, h, rfl⟩
    · have := subs_mem (k := k) (by omega) h
      exact ⟨by omega, this.2⟩
    · have := subs_mem (k := k) (by omega) h
      refine ⟨by rw [List.length_append, List.length_singleton]; omega, fun x hx => ?_⟩
      rcases List.mem_append.mp hx with h | h
      · exact this.2 x h
      · rw [List.mem_singleton.mp h, List.getD_eq_getElem?_getD, List.getElem?_eq_getElem (by omega)]
        exact List.getElem_mem _
/-- a corner left out, by its place and by itself -/
theorem left_out : ∀ {ns : List Int} (k : Nat), ns.Pairwise (· < ·) → (h : k < ns.length) → ns.filter (fun x => decide (x ≠ ns.getD k 0)) = ns.take k ++ ns.drop (k + 1)
  | x :: ns, 0, hp, h => by
    have h1 := List.pairwise_cons.mp hp
    simp only [List.getD_cons_zero, List.take_zero, List.nil_append, List.drop_succ_cons, List.drop_zero]
    rw [List.filter_cons_of_neg (by simp), List.filter_eq_self.mpr]
    intro y hy
    have := h1.1 y hy
    exact decide_eq_true (by omega)
  | x :: ns, k + 1, hp, h => by
    have h1 := List.pairwise_cons.mp hp
    have h2 : k < ns.length := by simpa using h
    simp only [List.getD_cons_succ, List.take_succ_cons, List.drop_succ_cons, List.cons_append]
    have h3 := h1.1 (ns.getD k 0) (by rw [List.getD_eq_getElem?_getD, List.getElem?_eq_getElem h2]; exact List.getElem_mem _)
    rw [List.filter_cons_of_pos (p := fun x => decide (x ≠ ns.getD k 0)) (decide_eq_true (by omega)), left_out k h1.2 h2]
/-- f lies in a laid piece -/
def lyB (ps : List (List Int)) (laid : List Int) (f : List Int) : Bool := laid.any fun o => lies f (pc ps o)
/-- the piece without c -/
def less (P : List Int) (c : Int) : List Int := P.filter fun x => !decide (x = c)
def spare (ps : List (List Int)) (laid : List Int) (P : List Int) : List Int := P.filter fun c => lyB ps laid (less P c)
/-- a face that spoils it -/
def bad (ps : List (List Int)) (laid : List Int) (P f : List Int) : Bool := lyB ps laid f && decide ((spare ps laid P).filter (fun c => !decide (c ∈ f)) = [])
def dueB (ps : List (List Int)) (laid : List Int) (k : Nat) : Bool := !(subs (ps.getD k []) (ps.getD k []).length).any (bad ps laid (ps.getD k []))
theorem lies_iff {f g : List Int} : lies f g = true ↔ ∀ x ∈ f, x ∈ g := by
  unfold lies
  rw [List.all_eq_true]
  exact ⟨fun h x hx => of_decide_eq_true (h x hx), fun h x hx => decide_eq_true (h x hx)⟩
theorem mem_comm {f g : List Int} {x : Int} : x ∈ comm f g ↔ x ∈ f ∧ x ∈ g := by
  unfold comm
  rw [List.mem_filter]
  exact ⟨fun h => ⟨h.1, of_decide_eq_true h.2⟩, fun h => ⟨h.1, decide_eq_true h.2⟩⟩
theorem lyB_iff {ps : List (List Int)} {laid f : List Int} : lyB ps laid f = true ↔ ∃ o ∈ laid, ∀ x ∈ f, x ∈ pc ps o := by
  unfold lyB
  rw [List.any_eq_true]
  exact ⟨fun ⟨o, h1, h2⟩ => ⟨o, h1, lies_iff.mp h2⟩, fun ⟨o, h1, h2⟩ => ⟨o, h1, lies_iff.mpr h2⟩⟩
theorem mem_less {P : List Int} {c x : Int} : x ∈ less P c ↔ x ∈ P ∧ x ≠ c := by
  unfold less
  rw [List.mem_filter]
  simp
theorem mem_spare {ps : List (List Int)} {laid P : List Int} {c : Int} : c ∈ spare ps laid P ↔ c ∈ P ∧ ∃ o ∈ laid, ∀ x ∈ P, x ≠ c → x ∈ pc ps o := by
  unfold spare
  rw [List.mem_filter, lyB_iff]
  refine and_congr_right fun _ => ⟨fun ⟨o, h1, h2⟩ => ⟨o, h1, fun x hx hn => h2 x (mem_less.mpr ⟨hx, hn⟩)⟩, fun ⟨o, h1, h2⟩ => ⟨o, h1, fun x hx => h2 x (mem_less.mp hx).1 (mem_less.mp hx).2⟩⟩
theorem bad_iff {ps : List (List Int)} {laid P f : List Int} : bad ps laid P f = true ↔ (∃ o ∈ laid, ∀ x ∈ f, x ∈ pc ps o) ∧ ∀ c ∈ spare ps laid P, c ∈ f := by
  unfold bad
  rw [Bool.and_eq_true, lyB_iff]
  refine and_congr_right fun _ => ?_
  rw [decide_eq_true_iff, List.filter_eq_nil_iff]
  simp
theorem filter_subs (P : List Int) (p : Int → Bool) : ∀ k, k ≤ P.length → (P.take k).filter p ∈ subs P k
  | 0, _ => by simp [subs]
  | k + 1, h => by
    have ih := filter_subs P p k (by omega)
    rw [take_filter (by omega), subs, List.mem_append]
    by_cases c : p (P.getD k 0) = true
    · rw [if_pos c]
      exact .inr (List.mem_map_of_mem (f := (· ++ [P.getD k 0])) ih)
    · rw [if_neg c, List.append_nil]
      exact .inl ih
theorem comm_subs (P g : List Int) : comm P g ∈ subs P P.length := by
  have := filter_subs P (fun x => decide (x ∈ g)) P.length (Nat.le_refl _)
  rwa [List.take_length] at this
/-- one in the other, of one piece -/
theorem comm_lt {P a b : List Int} (h : ∀ x ∈ comm P a, x ∈ comm P b) (ne : comm P a ≠ comm P b) : (comm P a).length < (comm P b).length := by
  have e : comm P a = (comm P b).filter fun x => decide (x ∈ a) := by
    unfold comm
    rw [List.filter_filter]
    refine List.filter_congr fun x hx => ?_
    by_cases hxa : x ∈ a
    · have := (mem_comm.mp (h x (mem_comm.mpr ⟨hx, hxa⟩))).2
      simp [hxa, this]
    · simp [hxa]
  have sl : (comm P a).Sublist (comm P b) := by
    rw [e]
    exact List.filter_sublist
  rcases Nat.lt_or_ge (comm P a).length (comm P b).length with h1 | h1
  · exact h1
  · exact absurd (sl.eq_of_length_le h1) ne
theorem less_len {P : List Int} {s : Int} (nd : P.Nodup) (hs : s ∈ P) : (less P s).length + 1 = P.length := by
  have e : less P s = P.erase s := by
    rw [nd.erase_eq_filter]
    unfold less
    refine List.filter_congr fun x _ => ?_
    by_cases h : x = s <;> simp [h]
  rw [e, List.length_erase_of_mem hs]
  have := List.length_pos_of_mem hs
  omega
section
variable {ps : List (List Int)} {laid : List Int} {k : Nat} {fs : List (List Int)}
/-- above each there is a greatest one -/
theorem climb (cm : Cm ps laid k fs) : ∀ (n : Nat) (g : List Int), g ∈ fs → (ps.getD k []).length - g.length ≤ n → ∃ g' ∈ fs, (∀ x ∈ g, x ∈ g') ∧ ∀ h ∈ fs, g' ≠ h → lies g' h = false
  | n, g, hg, hn => by
    by_cases hm : ∀ h ∈ fs, g ≠ h → lies g h = false
    · exact ⟨g, hg, fun _ h => h, hm⟩
    · have ⟨h, hh, hne, hl⟩ : ∃ h ∈ fs, g ≠ h ∧ lies g h = true := by
        refine Classical.byContradiction fun z => hm fun h hh hne => ?_
        cases e : lies g h with
        | false => rfl
        | true => exact absurd ⟨h, hh, hne, e⟩ z
      obtain ⟨o, ho, rfl⟩ := (cm.2 g).mp hg
      obtain ⟨o', ho', rfl⟩ := (cm.2 h).mp hh
      have h1 := comm_lt (lies_iff.mp hl) hne
      have h2 : (comm (ps.getD k []) (pc ps o')).length ≤ (ps.getD k []).length := List.length_filter_le _ _
      match n, hn with
      | 0, hn => omega
      | n + 1, hn =>
        obtain ⟨g', k1, k2, k3⟩ := climb cm n _ hh (by omega)
        exact ⟨g', k1, fun x hx => k2 x (lies_iff.mp hl x hx), k3⟩
theorem top_iff {f : List Int} : f ∈ top fs ↔ f ∈ fs ∧ ∀ g ∈ fs, f ≠ g → lies f g = false := by
  unfold top
  rw [List.mem_filter]
  refine and_congr_right fun _ => ?_
  rw [Bool.not_eq_true', List.any_eq_false]
  refine forall_congr' fun g => forall_congr' fun _ => ?_
  by_cases h : f = g <;> simp [h]
theorem fits_due (cm : Cm ps laid k fs) (nd : (ps.getD k []).Nodup) : ((top fs).all fun f => decide ((f.length : Int) = ((ps.getD k []).length : Int) - 1)) = dueB ps laid k := by
  rw [Bool.eq_iff_iff, List.all_eq_true]
  unfold dueB
  rw [Bool.not_eq_true', List.any_eq_false]
  constructor
  · intro H f hf hb
    obtain ⟨⟨o, ho, hfo⟩, hsp⟩ := bad_iff.mp hb
    have hfP := (subs_mem (Nat.le_refl _) hf).2
    have hg0 : comm (ps.getD k []) (pc ps o) ∈ fs := (cm.2 _).mpr ⟨o, ho, rfl⟩
    obtain ⟨g, k1, k2, k3⟩ := climb cm _ _ hg0 (Nat.le_refl _)
    have hl : (g.length : Int) = ((ps.getD k []).length : Int) - 1 := of_decide_eq_true (H g (top_iff.mpr ⟨k1, k3⟩))
    obtain ⟨o', ho', rfl⟩ := (cm.2 g).mp k1
    -- a corner that it lacks
    have ⟨s, hs, hsg⟩ : ∃ s ∈ ps.getD k [], s ∉ comm (ps.getD k []) (pc ps o') := by
      refine Classical.byContradiction fun z => ?_
      have e : comm (ps.getD k []) (pc ps o') = ps.getD k [] := List.filter_eq_self.mpr fun x hx => by
        refine Classical.byContradiction fun y => z ⟨x, hx, fun w => y (decide_eq_true (mem_comm.mp w).2)⟩
      rw [e] at hl
      omega
    have sl : (comm (ps.getD k []) (pc ps o')).Sublist (less (ps.getD k []) s) := by
      have e : comm (ps.getD k []) (pc ps o') = (less (ps.getD k []) s).filter fun x => decide (x ∈ pc ps o') := by
        unfold comm less
        rw [List.filter_filter]
        refine List.filter_congr fun x hx => ?_
        by_cases hxa : x ∈ pc ps o'
        · have : x ≠ s := fun z => hsg (z ▸ mem_comm.mpr ⟨hx, hxa⟩)
          simp [hxa, this]
        · simp [hxa]
      rw [e]
      exact List.filter_sublist
    have hll := less_len nd hs
    have e := sl.eq_of_length_le (by omega)
    have hss : s ∈ spare ps laid (ps.getD k []) := mem_spare.mpr ⟨hs, o', ho', fun x hx hn => (mem_comm.mp (by rw [e]; exact mem_less.mpr ⟨hx, hn⟩)).2⟩
    exact hsg (k2 s (mem_comm.mpr ⟨hs, hfo s (hsp s hss)⟩))
  · intro H g hg
    obtain ⟨k1, k3⟩ := top_iff.mp hg
    obtain ⟨o, ho, rfl⟩ := (cm.2 g).mp k1
    have hb := H _ (comm_subs (ps.getD k []) (pc ps o))
    have ⟨s, hs, hsg⟩ : ∃ s ∈ spare ps laid (ps.getD k []), s ∉ comm (ps.getD k []) (pc ps o) := by
      refine Classical.byContradiction fun z => hb (bad_iff.mpr ⟨⟨o, ho, fun x hx => (mem_comm.mp hx).2⟩, fun c hc => ?_⟩)
      exact Classical.byContradiction fun y => z ⟨c, hc, y⟩
    obtain ⟨hsP, o', ho', hso⟩ := mem_spare.mp hs
    have hh : comm (ps.getD k []) (pc ps o') ∈ fs := (cm.2 _).mpr ⟨o', ho', rfl⟩
    have hl : lies (comm (ps.getD k []) (pc ps o)) (comm (ps.getD k []) (pc ps o')) = true := lies_iff.mpr fun x hx => mem_comm.mpr ⟨(mem_comm.mp hx).1, hso x (mem_comm.mp hx).1 fun z => hsg (z ▸ hx)⟩
    have e : comm (ps.getD k []) (pc ps o) = comm (ps.getD k []) (pc ps o') := by
      refine Classical.byContradiction fun z => ?_
      rw [k3 _ hh z] at hl
      cases hl
    have e2 : comm (ps.getD k []) (pc ps o) = less (ps.getD k []) s := by
      unfold comm less
      refine List.filter_congr fun x hx => ?_
      by_cases hxs : x = s
      · have : x ∉ pc ps o := fun z => hsg (hxs ▸ mem_comm.mpr ⟨hx, z⟩)
        simp [hxs, hxs ▸ this]
      · have : x ∈ comm (ps.getD k []) (pc ps o) := by rw [e]; exact mem_comm.mpr ⟨hx, hso x hx hxs⟩
        simp [hxs, (mem_comm.mp this).2]
    rw [e2]
    have := less_len nd hsP
    exact decide_eq_true (by omega)
theorem lyB_rev (f : List Int) : lyB ps laid.reverse f = lyB ps laid f := by
  unfold lyB
  rw [List.any_reverse]
theorem dueB_rev : dueB ps laid.reverse k = dueB ps laid k := by
  have e : lyB ps laid.reverse = lyB ps laid := funext lyB_rev
  unfold dueB bad spare
  rw [e]
end

/-! ### whether a face lies in a laid piece -/
def sp_llies (K : PySem.W.Frag) : Sp := fun vs H Q _ => ∃ (f t la : Addr) (ns : List Int) (ps : List (List Int)) (laid : List Int), vs = [.ref f, .ref t, .ref la] ∧ (SqL K H f (ns.map V.int) ∨ SqT K H f (ns.map V.int)) ∧ ns.length ≤ 1000 ∧ Shp K H t ps ∧ SqL K H la (laid.map V.int) ∧
  (∀ o ∈ laid, 0 ≤ o ∧ o < ps.length) ∧ ∀ H', Ch [] H H' → Q (.bl (lyB ps laid ns)) H'
def t_llies (K : PySem.W.Frag) : TS :=
    (tSeq (tFor (iList K (tVar 2)) (gName 3)
    (tIfS (tB (tCB (rAll K) (tCons (tLc (iSeq K (tVar 0)) (gName 4) tYes (tOp (rIn K false) (tVar 4) (tOp (rIxT K) (tVar 1) (tVar 3))) [4]) tNil))) (tRet (tC (.bl true))) tNext))
    (tRet (tC (.bl false))))

theorem len_llies (K : PySem.W.Frag) : ∀ vs H Q E, sp_llies K vs H Q E → vs.length = 3 := by
  rintro vs H Q E ⟨n, m, _, _, _, _, rfl, _⟩
  rfl
theorem take_any {α : Type} {xs : List α} {p : α → Bool} {i : Nat} {x : α} (h : xs[i]? = some x) : (xs.take (i + 1)).any p = ((xs.take i).any p || p x) := by
  rw [List.take_add_one, List.any_append, h]
  simp
theorem rd_llies {K : PySem.W.Frag} {H : Hp} {vs : List V} {Q : VK} {E : XK} {N : List Str} (h : sp_llies K vs H Q E) (hN : N.length = 5 := by rfl) : t_llies K { nx := fun _ H' => Q .non H', rt := Q } (start N vs) H := by
  obtain ⟨f, t, la, ns, ps, laid, rfl, hf, hz, hs, hla, ho, k⟩ := h
  refine w_start (σ := [some (.ref f), some (.ref t), some (.ref la), none, none]) (by simp [L2.start, hN]) ?_
  unfold t_llies
  walk_at "rd"
  refine w_goL hla ?_
  refine w_forL (xs := laid.map V.int) (fun i σ' H' => Ch [] H H' ∧ ((laid.take i).any fun o => lies ns (pc ps o)) = false ∧ ∃ o3 o4, σ' = [some (.ref f), some (.ref t), some (.ref la), o3, o4]) ⟨.refl, rfl, none, none, rfl⟩ (fun i σ' H' _ m => m.1.sql hla) ?_ ?_
  · rintro i x σ' H1 hx ⟨c1, ha, o3, o4, rfl⟩
    obtain ⟨hi, rfl⟩ := int_at hx
    have hg : laid[i]? = some (laid.getD i 0) := by rw [List.getD_eq_getElem?_getD, List.getElem?_eq_getElem hi]; rfl
    have hol := ho (laid.getD i 0) (List.mem_of_getElem? hg)
    generalize laid.getD i 0 = o at hg hol
    have turn : ∀ (j : Nat) H2 (Q' : VK) (c : Int), Ch [] H1 H2 → (∀ H3, Ch [] H2 H3 → Q' (.bl (decide (c ∈ pc ps o))) H3) → tOp (rIn K false) (tVar 4) (tOp (rIxT K) (tVar 1) (tVar 3)) [some (.ref f), some (.ref t), some (.ref la), some (.int o), some (.int c)] H2 Q' := by
      intro j H2 Q' c c2 q
      walk_at "rd"
      refine w_ixShp (k := o.toNat) ((hs.keep c1).keep c2) (by omega) (by omega) fun u hu => ?_
      walk_at "rd"
      exact q H2 .refl
    have fin : ∀ l H2, Ch [] H1 H2 → H2 l = some (.lst ((ns.map fun c => decide (c ∈ pc ps o)).map V.bl)) → rAll K [.ref l] H2 fun x H' => ∃ b, x = .bl b ∧ (b = true → Q (.bl true) H') ∧ (b = false → Ch [] H H' ∧ ((laid.take (i + 1)).any fun o => lies ns (pc ps o)) = false) := by
      intro l H2 c2 e2
      refine w_all (SqL.of e2) ⟨_, rfl, fun hb => ?_, fun hb => ?_⟩
      · rw [all_map_id] at hb
        have : lyB ps laid ns = true := by
          unfold lyB
          rw [List.any_eq_true]
          exact ⟨o, List.mem_of_getElem? hg, hb⟩
        have q := k H2 (c1.trans c2)
        rwa [this] at q
      · rw [all_map_id] at hb
        refine ⟨c1.trans c2, ?_⟩
        rw [take_any hg, ha]
        exact hb
    walk_at "rd"
    rcases hf with hf | hf
    · refine .inl (w_iL ?_)
      walk_at "rd"
      refine w_goL (c1.sql hf) ?_
      refine w_lcLV (fun j => .bl (decide (ns.getD j 0 ∈ pc ps o))) (c1.sql hf) (fun _ => rfl) (by rw [List.length_map]; omega) (fun j x H2 Q' hx c2 k' => ?_) (fun l H2 hl c2 e2 => ?_)
      · obtain ⟨hj, rfl⟩ := int_at hx
        exact turn j H2 Q' _ c2 k'
      · rw [List.length_map, map_getD ns (fun c => V.bl (decide (c ∈ pc ps o))), show ns.map (fun c => V.bl (decide (c ∈ pc ps o))) = (ns.map fun c => decide (c ∈ pc ps o)).map V.bl by rw [List.map_map]; rfl] at e2
        walk_at "rd"
        obtain ⟨a', bs, z1, z2, b, z3, z4, z5⟩ := fin l H2 c2 e2
        cases z1
        refine ⟨l, bs, rfl, z2, ?_⟩
        cases z3
        cases hb : bs.all id with
        | true => exact ⟨_, rfl, z4 hb⟩
        | false =>
          have z6 := z5 hb
          exact ⟨_, rfl, z6.1, z6.2, _, _, rfl⟩
    · refine .inr (w_iT ?_)
      walk_at "rd"
      refine w_goT (c1.sqt hf) ?_
      refine w_lcTV (fun j => .bl (decide (ns.getD j 0 ∈ pc ps o))) (c1.sqt hf) (fun _ => rfl) (by rw [List.length_map]; omega) (fun j x H2 Q' hx c2 k' => ?_) (fun l H2 hl c2 e2 => ?_)
      · obtain ⟨hj, rfl⟩ := int_at hx
        exact turn j H2 Q' _ c2 k'
      · rw [List.length_map, map_getD ns (fun c => V.bl (decide (c ∈ pc ps o))), show ns.map (fun c => V.bl (decide (c ∈ pc ps o))) = (ns.map fun c => decide (c ∈ pc ps o)).map V.bl by rw [List.map_map]; rfl] at e2
        walk_at "rd"
        obtain ⟨a', bs, z1, z2, b, z3, z4, z5⟩ := fin l H2 c2 e2
        cases z1
        refine ⟨l, bs, rfl, z2, ?_⟩
        cases z3
        cases hb : bs.all id with
        | true => exact ⟨_, rfl, z4 hb⟩
        | false =>
          have z6 := z5 hb
          exact ⟨_, rfl, z6.1, z6.2, _, _, rfl⟩
  · rintro σ' H1 ⟨c1, ha, o3, o4, rfl⟩
    rw [List.length_map, List.take_length] at ha
    walk_at "rd"
    have q := k H1 c1
    rwa [show lyB ps laid ns = false from ha] at q
/-- repr of None, or of what is read as d -/
def rReprV (K : PySem.W.Frag) : List V → Hp → VK → Prop := fun xs H Q => (xs = [.non] ∧ Q (.str "None") H) ∨ rReprD K xs H Q
theorem call_reprV {X : Cx} (hg : X.A.guards = some []) (hu : X.A.units + 64 < cLine) : CallR X (.builtin "repr") (rReprV X.K) := by
  intro pins s σ H vs us Q I r h
  rcases h with ⟨rfl, q⟩ | h
  · cases r with
    | cons r1 r2 =>
      cases r2
      cases r1
      exact PySem.P.repr_of_none ⟨.str "None", H, I.tok _, ⟨_, rfl⟩, q⟩
  · exact call_reprD hg hu pins s σ H vs us Q I r h
section
variable {K : PySem.W.Frag} {H H1 : Hp} {Q : VK} {a L : Addr} {j n : Nat} {te : TE} {tt : TT} {vs : List Nat} {σ : L2.St} {i : Nat} {acc : List V}
/-- a comprehension whose test may lay new things -/
theorem filt_turn2 {ns : List Int} {g : Int → Bool} (hi : i < ns.length) (hb : ns.length ≤ 1000000) (hL : H L = none) (ha : acc.length ≤ i) (e : H1 L = some (.lst acc)) (m : Ch [] H H1 ∧ acc = ((ns.take i).filter g).map V.int)
    (ht : ∀ (QB : Bool → Hp → Prop), (∀ H2, Ch [] H1 H2 → QB (g (ns.getD i 0)) H2) → tt σ H1 QB) (he : ∀ H2 (Q : VK), Q (.int (ns.getD i 0)) H2 → te σ H2 Q) :
    LcTurn (fun _ i acc H' => Ch [] H H' ∧ acc = ((ns.take i).filter g).map V.int) tt te L i σ H1 := by
  obtain ⟨c, rfl⟩ := m
  refine w_turn (ht _ fun H2 c2 => ?_)
  by_cases hg : g (ns.getD i 0) = true
  · rw [if_pos hg]
    refine he _ _ (w_lcput (c2.lst e) ha (by omega) fun H5 c5 e5 => ⟨Ch.old (c.trans c2) hL c5, ?_⟩)
    rw [take_filter hi, if_pos hg, List.map_append]
    rfl
  · rw [if_neg hg]
    refine w_lcskip (c2.lst e) ha ⟨c.trans c2, ?_⟩
    rw [take_filter hi, if_neg hg, List.append_nil]
theorem w_lcTF2 {ns : List Int} (g : Int → Bool) (hs : SqT K H a (ns.map V.int)) (hw : ∀ x, wipe ((wipe σ vs).set j (some x)) vs = wipe σ vs) (hn : ns.length ≤ 1000000)
    (ht : ∀ (i : Nat) H1 (QB : Bool → Hp → Prop), i < ns.length → Ch [] H H1 → (∀ H2, Ch [] H1 H2 → QB (g (ns.getD i 0)) H2) → tt ((wipe σ vs).set j (some (.int (ns.getD i 0)))) H1 QB)
    (he : ∀ (n : Int) H1 (Q : VK), Q (.int n) H1 → te ((wipe σ vs).set j (some (.int n))) H1 Q)
    (k : ∀ l H', H l = none → Ch [] H H' → H' l = some (.lst ((ns.filter g).map V.int)) → Q (.ref l) H') : LcGo (Itt K a) (gName j) tt te vs σ H Q :=
  w_lcT (fun _ i acc H' => Ch [] H H' ∧ acc = ((ns.take i).filter g).map V.int) (fun _ _ _ c _ => ⟨c, rfl⟩) hw (fun L i acc H' hL e m => m.1.sqt hs) (fun L i x acc H' hL hx ha e m => by
    obtain ⟨hi, rfl⟩ := int_at hx
    exact filt_turn2 hi hn hL ha e m (fun QB q => ht i H' QB hi m.1 q) (fun H2 Q q => he _ H2 Q q)) (fun L acc H' hL e m => by
    obtain ⟨c, rfl⟩ := m
    rw [List.length_map, List.take_length] at e
    exact k L H' hL c e)
/-- the text of a tuple of ints -/
theorem w_reprT {x : Addr} {f : List Int} (h : SqT K H x (f.map V.int)) (hl : f.length ≤ 1000) (hz : ∀ y ∈ f, y.natAbs < 10 ^ 70) (q : Q (.str (encT f).shown) H) : rReprV K [.ref x] H Q := by
  refine .inr ⟨x, _, 70, rfl, dp_tup h, Nat.le_trans (encT_depth f) (by decide), by decide, ints_small hz, ?_, q⟩
  have := encT_cost 70 f
  rw [sizeLine_eq]
  show cost 70 (encT f) ≤ _
  omega
theorem w_reprN (q : Q (.str "None") H) : rReprV K [.non] H Q := .inl ⟨rfl, q⟩
theorem w_isN (q : Q (.bl true) H) : rIsN .non .non H Q := ⟨rfl, q⟩
end

/-! ### fits -/
/-- what is asked of a shape, some laid, a piece -/
def Asks (K : PySem.W.Frag) (H : Hp) (t la : Addr) (ps : List (List Int)) (laid : List Int) (k : Nat) : Prop := Shp K H t ps ∧ SqL K H la (laid.map V.int) ∧ laid.length ≤ 60 ∧ k < ps.length ∧ (∀ o ∈ laid, 0 ≤ o ∧ o < ps.length) ∧ ∀ f ∈ ps, f.length ≤ 6 ∧ f.Nodup
theorem Asks.piece {K : PySem.W.Frag} {H : Hp} {t la : Addr} {ps : List (List Int)} {laid : List Int} {k : Nat} (h : Asks K H t la ps laid k) : ps.getD k [] ∈ ps := by
  rw [List.getD_eq_getElem?_getD, List.getElem?_eq_getElem h.2.2.2.1]
  exact List.getElem_mem _
def sp_fits (K : PySem.W.Frag) : Sp := fun vs H Q _ => ∃ (t la : Addr) (ps : List (List Int)) (laid : List Int) (k : Nat), vs = [.ref t, .ref la, .int k] ∧ Asks K H t la ps laid k ∧ ∀ H', Ch [] H H' → Q (.bl (dueB ps laid k)) H'
def t_fits (K : PySem.W.Frag) : TS :=
    (tRet (tCB (rAll K) (tCons (tLc (iList K (tCall (sp_shared K) [] E0 (tCons (tVar 0) (tCons (tVar 1) (tCons (tVar 2) tNil))))) (gName 3) tYes (tOp rEq (tCB (rLenL K) (tCons (tVar 3) tNil)) (tOp rSub (tCB (rLenL K) (tCons (tOp (rIxT K) (tVar 0) (tVar 2)) tNil)) (tC (.int 1)))) [3]) tNil)))

theorem len_fits (K : PySem.W.Frag) : ∀ vs H Q E, sp_fits K vs H Q E → vs.length = 3 := by
  rintro vs H Q E ⟨p, m, n, _, _, rfl, _⟩
  rfl
theorem rd_fits {K : PySem.W.Frag} {H : Hp} {vs : List V} {Q : VK} {E : XK} {N : List Str} (h : sp_fits K vs H Q E) (hN : N.length = 4 := by rfl) : t_fits K { nx := fun _ H' => Q .non H', rt := Q } (start N vs) H := by
  obtain ⟨t, la, ps, laid, k, rfl, ha, kk⟩ := h
  have hpk := ha.piece
  obtain ⟨hs, hla, hz, hk, ho, hps⟩ := ha
  refine w_start (σ := [some (.ref t), some (.ref la), some (.int k), none]) (by simp [L2.start, hN]) ?_
  unfold t_fits
  walk_at "rd"
  refine ⟨t, la, ps, laid, k, rfl, hs, hla, hz, hk, ho, fun f hf => Nat.le_trans (hps f hf).1 (by decide), fun l fs H1 cm fln hl c1 lt1 => ?_⟩
  obtain ⟨ds, e1, hd, hds⟩ := lt1
  have hlen : ds.length ≤ 1000000 := by
    have h1 : ds.length = (top fs).length := by rw [← hds, List.length_map]
    have h2 : (top fs).length ≤ fs.length := List.length_filter_le _ _
    omega
  refine w_goL (SqL.of e1) ?_
  refine w_lcLV (fun j => .bl (decide ((((top fs).getD j []).length : Int) = ((ps.getD k []).length : Int) - 1))) (SqL.of e1) (fun _ => rfl) (by rw [List.length_map]; omega) (fun j x H2 Q' hx c2 k' => ?_) (fun l H2 hl c2 e2 => ?_)
  · rw [List.getElem?_map] at hx
    obtain ⟨d, hdj, rfl⟩ := Option.map_eq_some_iff.mp hx
    have hmd := List.mem_of_getElem? hdj
    have hfj : (top fs).getD j [] = d.2 := by
      rw [← hds, List.getD_eq_getElem?_getD, List.getElem?_map, hdj]
      rfl
    have hd2 := c2.sqt (hd d hmd)
    dsimp only [wipe, List.set_cons_zero, List.set_cons_succ]
    walk_at "rd"
    refine w_ixShp ((hs.keep c1).keep c2) rfl hk fun u hu => ?_
    walk_at "rd"
    rw [hfj] at k'
    have := k' H2 .refl
    rwa [List.length_map, List.length_map]
  · rw [List.length_map, ← List.length_map (as := ds) (f := (·.2)), hds, map_getDL (top fs) (fun f => V.bl (decide ((f.length : Int) = ((ps.getD k []).length : Int) - 1))), show (top fs).map (fun f => V.bl (decide ((f.length : Int) = ((ps.getD k []).length : Int) - 1))) = ((top fs).map fun f => decide ((f.length : Int) = ((ps.getD k []).length : Int) - 1)).map V.bl by rw [List.map_map]; rfl] at e2
    walk_at "rd"
    refine w_all (SqL.of e2) ?_
    rw [show ((top fs).map fun f => decide ((f.length : Int) = ((ps.getD k []).length : Int) - 1)).all id = dueB ps laid k by rw [List.all_map]; exact fits_due cm (hps _ hpk).2]
    exact kk H2 (c1.trans c2)
/-! ### without, meets_without, brings -/
def sp_without (K : PySem.W.Frag) : Sp := fun vs H Q _ => ∃ (t : Addr) (ns : List Int) (c : Int), vs = [.ref t, .int c] ∧ SqT K H t (ns.map V.int) ∧ ns.length ≤ 1000 ∧ ∀ u H', Ch [] H H' → SqT K H' u ((less ns c).map V.int) → Q (.ref u) H'
def t_without (K : PySem.W.Frag) : TS :=
    (tRet (tCB (rTupOf K) (tCons (tLc (iTup K (tVar 0)) (gName 2) (tTest (tOp rNe (tVar 2) (tVar 1))) (tVar 2) [2]) tNil)))

theorem len_without (K : PySem.W.Frag) : ∀ vs H Q E, sp_without K vs H Q E → vs.length = 2 := by
  rintro vs H Q E ⟨n, m, c, rfl, _⟩
  rfl
theorem rd_without {K : PySem.W.Frag} {H : Hp} {vs : List V} {Q : VK} {E : XK} {N : List Str} (h : sp_without K vs H Q E) (hN : N.length = 3 := by rfl) : t_without K { nx := fun _ H' => Q .non H', rt := Q } (start N vs) H := by
  obtain ⟨t, ns, c, rfl, ht, hz, k⟩ := h
  refine w_start (σ := [some (.ref t), some (.int c), none]) (by simp [L2.start, hN]) ?_
  unfold t_without
  walk_at "rd"
  refine w_goT ht ?_
  refine w_lcTF (fun x => !decide (x = c)) ht (fun _ => rfl) (by omega) (fun j H3 QB hj c3 q => ?_) (fun z H3 Q' q => ?_) (fun l H3 hl c3 e3 => ?_)
  · dsimp only [wipe, List.set_cons_zero, List.set_cons_succ]
    walk_at "rd"
    exact q
  · dsimp only [wipe, List.set_cons_zero, List.set_cons_succ]
    walk_at "rd"
    exact q
  · walk_at "rd"
    exact w_tupOf (SqL.of e3) fun u H2 c2 e2 => k u H2 (c3.trans c2) e2
def sp_meets_without (K : PySem.W.Frag) : Sp := fun vs H Q _ => ∃ (t la : Addr) (ps : List (List Int)) (laid : List Int) (k : Nat) (c : Int), vs = [.ref t, .ref la, .int k, .int c] ∧ Asks K H t la ps laid k ∧ ∀ H', Ch [] H H' → Q (.bl (lyB ps laid (less (ps.getD k []) c))) H'
def t_meets_without (K : PySem.W.Frag) : TS :=
    (tSeq (tAsg (tCall (sp_without K) [] E0 (tCons (tOp (rIxT K) (tVar 0) (tVar 2)) (tCons (tVar 3) tNil))) (gName 4))
    (tRet (tCB (rAny K) (tCons (tLc (iList K (tVar 1)) (gName 5) tYes (tCall (sp_lies_in K) [] E0 (tCons (tVar 4) (tCons (tOp (rIxT K) (tVar 0) (tVar 5)) tNil))) [5]) tNil))))

theorem len_meets_without (K : PySem.W.Frag) : ∀ vs H Q E, sp_meets_without K vs H Q E → vs.length = 4 := by
  rintro vs H Q E ⟨p, m, n, _, _, _, rfl, _⟩
  rfl
theorem rd_meets_without {K : PySem.W.Frag} {H : Hp} {vs : List V} {Q : VK} {E : XK} {N : List Str} (h : sp_meets_without K vs H Q E) (hN : N.length = 6 := by rfl) : t_meets_without K { nx := fun _ H' => Q .non H', rt := Q } (start N vs) H := by
  obtain ⟨t, la, ps, laid, k, c, rfl, ha, kk⟩ := h
  have hpk := ha.piece
  obtain ⟨hs, hla, hz, hk, ho, hps⟩ := ha
  have hP := hps _ hpk
  refine w_start (σ := [some (.ref t), some (.ref la), some (.int k), some (.int c), none, none]) (by simp [L2.start, hN]) ?_
  unfold t_meets_without
  walk_at "rd"
  refine w_ixShp hs rfl hk fun u hu => ?_
  walk_at "rd"
  refine ⟨u, _, c, rfl, hu, by omega, fun sd H1 c1 e1 => ?_⟩
  have hl1 : (less (ps.getD k []) c).length ≤ 1000 := Nat.le_trans (List.length_filter_le _ _) (by omega)
  walk_at "rd"
  refine w_goL (c1.sql hla) ?_
  refine w_lcLV (fun i => .bl (lies (less (ps.getD k []) c) (pc ps (laid.getD i 0)))) (c1.sql hla) (fun _ => rfl) (by rw [List.length_map]; omega) (fun i x H2 Q' hx c2 k' => ?_) (fun l H2 hl c2 e2 => ?_)
  · obtain ⟨hi, rfl⟩ := int_at hx
    have hol := ho (laid.getD i 0) (by rw [List.getD_eq_getElem?_getD, List.getElem?_eq_getElem hi]; exact List.getElem_mem _)
    dsimp only [wipe, List.set_cons_zero, List.set_cons_succ]
    walk_at "rd"
    refine w_ixShp (k := (laid.getD i 0).toNat) ((hs.keep c1).keep c2) (by omega) (by omega) fun v hv => ?_
    walk_at "rd"
    exact ⟨sd, v, _, _, rfl, c2.sqt e1, hv, hl1, fun H3 c3 => k' H3 c3⟩
  · rw [List.length_map, map_getD laid (fun o => V.bl (lies (less (ps.getD k []) c) (pc ps o))), show laid.map (fun o => V.bl (lies (less (ps.getD k []) c) (pc ps o))) = (laid.map fun o => lies (less (ps.getD k []) c) (pc ps o)).map V.bl by rw [List.map_map]; rfl] at e2
    walk_at "rd"
    refine w_any (SqL.of e2) ?_
    rw [any_map_id]
    exact kk H2 (c1.trans c2)
/-- what is brought: nothing where it doesn't fit, else the spare corners -/
def sp_brings (K : PySem.W.Frag) : Sp := fun vs H Q _ => ∃ (t la : Addr) (ps : List (List Int)) (laid : List Int) (k : Nat), vs = [.ref t, .ref la, .int k] ∧ Asks K H t la ps laid k ∧
  (dueB ps laid k = false → ∀ H', Ch [] H H' → Q .non H') ∧ (dueB ps laid k = true → ∀ u H', Ch [] H H' → SqT K H' u ((spare ps laid (ps.getD k [])).map V.int) → Q (.ref u) H')
def t_brings (K : PySem.W.Frag) : TS :=
    (tSeq (tIfS (tNot (tB (tCall (sp_fits K) [] E0 (tCons (tVar 0) (tCons (tVar 1) (tCons (tVar 2) tNil)))))) (tRet (tC .non)) tNext)
    (tRet (tCB (rTupOf K) (tCons (tLc (iTup K (tOp (rIxT K) (tVar 0) (tVar 2))) (gName 3) (tB (tCall (sp_meets_without K) [] E0 (tCons (tVar 0) (tCons (tVar 1) (tCons (tVar 2) (tCons (tVar 3) tNil)))))) (tVar 3) [3]) tNil))))

theorem len_brings (K : PySem.W.Frag) : ∀ vs H Q E, sp_brings K vs H Q E → vs.length = 3 := by
  rintro vs H Q E ⟨p, m, n, _, _, rfl, _⟩
  rfl
theorem rd_brings {K : PySem.W.Frag} {H : Hp} {vs : List V} {Q : VK} {E : XK} {N : List Str} (h : sp_brings K vs H Q E) (hN : N.length = 4 := by rfl) : t_brings K { nx := fun _ H' => Q .non H', rt := Q } (start N vs) H := by
  obtain ⟨t, la, ps, laid, k, rfl, ha, k1, k2⟩ := h
  have hpk := ha.piece
  have ha' := ha
  obtain ⟨hs, hla, hz, hk, ho, hps⟩ := ha
  have hP := hps _ hpk
  refine w_start (σ := [some (.ref t), some (.ref la), some (.int k), none]) (by simp [L2.start, hN]) ?_
  unfold t_brings
  walk_at "rd"
  refine ⟨t, la, ps, laid, k, rfl, ha', fun H1 c1 => ?_⟩
  walk_at "rd"
  cases hd : dueB ps laid k with
  | false =>
    walk_at "rd"
    exact k1 hd H1 c1
  | true =>
    walk_at "rd"
    refine w_ixShp (hs.keep c1) rfl hk fun u hu => ?_
    walk_at "rd"
    refine w_goT hu ?_
    refine w_lcTF2 (fun c => lyB ps laid (less (ps.getD k []) c)) hu (fun _ => rfl) (by omega) (fun j H3 QB hj c3 q => ?_) (fun z H3 Q' q => ?_) (fun l H3 hl c3 e3 => ?_)
    · dsimp only [wipe, List.set_cons_zero, List.set_cons_succ]
      walk_at "rd"
      refine ⟨t, la, ps, laid, k, _, rfl, ⟨(hs.keep c1).keep c3, c3.sql (c1.sql hla), hz, hk, ho, hps⟩, fun H4 c4 => ?_⟩
      walk_at "rd"
      exact q H4 c4
    · dsimp only [wipe, List.set_cons_zero, List.set_cons_succ]
      walk_at "rd"
      exact q
    · walk_at "rd"
      exact w_tupOf (SqL.of e3) fun v H2 c2 e2 => k2 hd v H2 (c1.trans (c3.trans c2)) e2
/-! ## sorted(t), t a tuple of ints -/
section
variable {prog : Program} {w : World} {A : Around} {E : Value → Shared → Prop} {s : Shared}
theorem collect_tup {l : Addr} {vs : List Value} {Q : List Value → Shared → Prop} (hl : s.heap.IsTuple l vs.toArray)
    (h : Q vs { s with heap := (s.heap.push (seqObj "list" #[] 0)).update s.heap.objs.size (Obj.mapSeq (· ++ vs.toArray)) }) (hsz : vs.length ≤ sizeLine) :
    wpAny (model prog w) A (collect (.ref l)) Q E s := by
  obtain ⟨o, ho, hc, n, hd⟩ := id hl
  unfold collect
  refine wpAny_bind (wpAny_runValue (codeAny_builtin entry_proto_collect' ?_))
  show wpAny _ _ (do again (.builtin "list.__iadd__" ⟨[← newList [], .ref l], []⟩)) _ _ s
  refine wpAny_bind (wpAny_newList (wpAny_pure ⟨Code.quiet_builtin _ (by decide +kernel), codeAny_builtin entry_list_iadd' ?_⟩))
  show wpAny _ _ (Builtin.List.listExtendWith (.ref s.heap.objs.size) (.ref l) (.ref s.heap.objs.size)) _ _ { s with heap := s.heap.push (seqObj "list" #[] 0) }
  unfold Builtin.List.listExtendWith
  have ho' : (s.heap.push (seqObj "list" #[] 0)).get? l = some o := Heap.get?_push_of_some _ ho
  refine wpAny_bind (wpAny_typeOf (T := "tuple") ⟨o, ho', hc⟩ ?_)
  have ht : (Value.type "tuple" == Value.type "tuple") = true := by rfl
  rw [if_pos (by rw [ht]; simp)]
  refine wpAny_bind (listItems_at ho' hd ?_)
  refine wpAny_bind (listItems_at (xs := #[]) (n := 0) (Heap.get?_push_size _ rfl) rfl ?_)
  rw [if_neg (by simp)]
  refine wpAny_bind (listUpdate_at (xs := #[]) (n := 0) (Heap.get?_push_size _ rfl) rfl ?_ (Nat.zero_le _) (by show (#[] ++ vs.toArray).size ≤ sizeLine + 1; simp only [Array.size_append, List.size_toArray, List.length_nil]; omega))
  refine wpAny_pure ?_
  show wpAny (model prog w) A (do
      let o ← load s.heap.objs.size
      match o.data with
      | .seq xs _ => pure xs.toList
      | _ => unsupported "internal:collect") Q E { s with heap := (s.heap.push (seqObj "list" #[] 0)).update s.heap.objs.size (Obj.mapSeq (· ++ vs.toArray)) }
  refine wpAny_bind (wpAny_load (get?_update_seq (Heap.get?_push_size _ rfl) _) ?_)
  show wpAny _ _ (pure ((#[] : Array Value) ++ vs.toArray).toList) Q E _
  rw [show ((#[] : Array Value) ++ vs.toArray).toList = vs by simp]
  exact wpAny_pure h
theorem sorted_valsT {l : Addr} {vs : List Value} {κ : PyProof.Rows.KeyKind} {Q : Value → Shared → Prop} (hl : s.heap.IsTuple l vs.toArray) (S : PySem.W.SortsAt prog w A.in1.in1 { s with heap := PySem.W.sortingHeap (PySem.W.copyHeap s.heap vs) (s.heap.objs.size + 1) vs } κ vs) (hL : vs.length ≤ sizeLine)
    (h : Q (.ref (s.heap.objs.size + 1)) { s with heap := sortedAll s.heap vs (PySem.W.sortVals κ false vs vs).toArray }) : wpAny (model prog w) A (call (.builtin "sorted") [.ref l]) Q E s := by
  refine Calls.call_function_entry kind_sorted plain_sorted entry_sorted (args_sorted1 _) ?_
  unfold Builtin.«sorted»
  refine wpAny_bind (m := checkCount "sorted" 1 1 _) (wpAny_pure ?_)
  refine wpAny_bind (collect_tup hl ?_ hL)
  refine wpAny_bind (wpAny_newList ?_ hL)
  have hsz : ((s.heap.push (seqObj "list" #[] 0)).update s.heap.objs.size (Obj.mapSeq (· ++ vs.toArray))).objs.size = s.heap.objs.size + 1 := by
    rw [Heap.size_update, size_push']
  show wpAny _ _ _ _ _ { s with heap := PySem.W.copyHeap s.heap vs }
  rw [hsz]
  refine wpAny_bind (wpAny_holding (wpAny_call_entry slot_list_sort ⟨_, PySem.W.copyHeap_at s.heap vs, rfl⟩ entry_list_sort (PySem.W.list_sort_vals (s := { s with heap := PySem.W.copyHeap s.heap vs }) (PySem.W.copyHeap_at s.heap vs) S hL ⟨.none, rfl, ?_⟩) (args_list_sort _)))
  exact wpAny_pure ⟨_, rfl, h⟩
end
def leI (a b : Int) : Bool := decide (a ≤ b)
def rSortTI (K : PySem.W.Frag) : List V → Hp → VK → Prop := fun vs H Q => ∃ (a : Addr) (ns : List Int), vs = [.ref a] ∧ SqT K H a (ns.map V.int) ∧ ns.length ≤ 1000000 ∧ New H (.lst ((ns.mergeSort leI).map V.int)) Q
section
variable {X : Cx}
theorem each_ints : ∀ {ns : List Int} {its : List Value}, Vals (ns.map V.int) its → PySem.W.EachIs (fun v (b : Int) => RelV (.int b) v) its ns
  | [], _, r => by
    cases r
    exact .nil
  | b :: bs, _, r => by
    cases r with
    | cons r1 r2 => exact .cons r1 (each_ints r2)
theorem ints_each : ∀ {ns : List Int} {its : List Value}, PySem.W.EachIs (fun v (b : Int) => RelV (.int b) v) its ns → Vals (ns.map V.int) its
  | _, _, .nil => .nil
  | _, _, .cons r1 r2 => .cons r1 (ints_each r2)
theorem ints_reads {h : Heap} : ∀ {ns : List Int} {its : List Value}, PySem.W.EachIs (fun v (b : Int) => RelV (.int b) v) its ns → PySem.W.EachIs (fun v (b : Int) => ∃ as, Reads h v (.int b) as) its ns
  | _, _, .nil => .nil
  | _, _, .cons ⟨t, e⟩ r2 => .cons ⟨[], e ▸ Reads.int _ _⟩ (ints_reads r2)
theorem cr_sortTI (hu : X.A.units + 64 < cLine) : CallR X (.builtin "sorted") (rSortTI X.K) := by
  intro pins s σ H vs us Q I r h
  obtain ⟨a, ns, rfl, hq, hz, q⟩ := h
  rw [Vals.ref1 r]
  obtain ⟨its, rv, hl, _⟩ := I.tuple hq
  have e := each_ints rv
  have hL : its.length ≤ sizeLine := by rw [e.length, sizeLine_eq]; omega
  have er' := ints_reads (h := PySem.W.sortingHeap (PySem.W.copyHeap s.heap its) (s.heap.objs.size + 1) its) e
  have hal : PySem.W.AllAlike (ns.map PyData.int) := by
    intro d hd d' hd'
    obtain ⟨b, _, rfl⟩ := List.mem_map.mp hd
    obtain ⟨b', _, rfl⟩ := List.mem_map.mp hd'
    rfl
  refine sorted_valsT hl (PySem.W.SortsAt.data (s := { s with heap := PySem.W.sortingHeap (PySem.W.copyHeap s.heap its) (s.heap.objs.size + 1) its })
    (PySem.W.each_map (R := fun v d => ∃ as, Reads (PySem.W.sortingHeap (PySem.W.copyHeap s.heap its) (s.heap.objs.size + 1) its) v d as) PyData.int er') hal (.inr fun d hd => ?_) (fun d hd => ?_)) hL ?_
  · obtain ⟨b, _, rfl⟩ := List.mem_map.mp hd
    exact ⟨(fun z => nomatch z), (fun xs z => nomatch z)⟩
  · obtain ⟨b, _, rfl⟩ := List.mem_map.mp hd
    have h2 : X.A.in1.in1.units = X.A.units + 2 := rfl
    have h3 : (PyData.int b).depth = 0 := by simp [PyData.depth]
    omega
  have eo := PySem.W.sortVals_data false e er' hal
  generalize PySem.W.sortVals (PySem.W.dataKind (PySem.W.sortingHeap (PySem.W.copyHeap s.heap its) (s.heap.objs.size + 1) its) (ns.map PyData.int)) false its its = out at eo ⊢
  have e2 : PySem.W.dataLe false PyData.int = leI := PySem.W.dataLe_int id
  rw [e2] at eo
  have hf : H (s.heap.objs.size + 1) = none := I.hok.fresh (Nat.le_succ _)
  refine ⟨.ref (s.heap.objs.size + 1), _, I.laid (t' := s.toks) (fun b o eb => sortedAll_old eb) (Nat.le_succ _) ?_, rfl, q _ hf⟩
  obtain ⟨c, hc⟩ := sortedAll_at s.heap its out.toArray
  exact ⟨by rw [List.length_map, List.length_mergeSort, sizeLine_eq]; omega, out, c, ints_each eo, hc⟩
variable {K : PySem.W.Frag} {H : Hp} {Q : VK} {a : Addr} {ns : List Int}
theorem w_sortTI (h : SqT K H a (ns.map V.int)) (hz : ns.length ≤ 1000000) (q : ∀ l H', H l = none → Ch [] H H' → H' l = some (.lst ((ns.mergeSort leI).map V.int)) → Q (.ref l) H') : rSortTI K [.ref a] H Q := ⟨a, ns, rfl, h, hz, w_new q⟩
end
/-- two rising rows of the same things are one -/
theorem rise_ext {α : Type} {r : α → α → Prop} (as : ∀ a b, r a b → ¬ r b a) : ∀ {l1 l2 : List α}, l1.Pairwise r → l2.Pairwise r → (∀ x, x ∈ l1 ↔ x ∈ l2) → l1 = l2
  | [], [], _, _, _ => rfl
  | [], b :: l2, _, _, h => absurd ((h b).mpr List.mem_cons_self) (by simp)
  | a :: l1, [], _, _, h => absurd ((h a).mp List.mem_cons_self) (by simp)
  | a :: l1, b :: l2, h1, h2, h => by
    have p1 := List.pairwise_cons.mp h1
    have p2 := List.pairwise_cons.mp h2
    have e : a = b := by
      rcases List.mem_cons.mp ((h a).mp List.mem_cons_self) with e | e
      · exact e
      · rcases List.mem_cons.mp ((h b).mpr List.mem_cons_self) with e' | e'
        · exact e'.symm
        · exact absurd (p1.1 b e') (as _ _ (p2.1 a e))
    subst e
    have ir : ∀ x, ¬ r x x := fun x hx => as x x hx hx
    rw [rise_ext as p1.2 p2.2 fun x => ⟨fun hx => ?_, fun hx => ?_⟩]
    · rcases List.mem_cons.mp ((h x).mp (List.mem_cons_of_mem _ hx)) with e | e
      · subst e
        exact absurd (p1.1 x hx) (ir x)
      · exact e
    · rcases List.mem_cons.mp ((h x).mpr (List.mem_cons_of_mem _ hx)) with e | e
      · subst e
        exact absurd (p2.1 x hx) (ir x)
      · exact e
theorem ltI_as : ∀ a b : Int, a < b → ¬ b < a := fun a b h => by omega
theorem ltL_as : ∀ a b : List Int, a < b → ¬ b < a := fun a b h h' => List.lt_irrefl a (List.lt_trans h h')
theorem sorted_lt {l : List (List Int)} (nd : l.Nodup) : (l.mergeSort tLe).Pairwise (· < ·) := by
  have h1 : (l.mergeSort tLe).Pairwise fun p q => tLe p q = true := List.pairwise_mergeSort (fun a b c h1 h2 => by
    unfold tLe at *
    exact decide_eq_true (List.le_trans (of_decide_eq_true h1) (of_decide_eq_true h2))) (fun a b => by
    unfold tLe
    rcases List.le_total a b with h | h
    · rw [decide_eq_true h]; rfl
    · rw [decide_eq_true h, Bool.or_true]) l
  have h2 : (l.mergeSort tLe).Nodup := (List.mergeSort_perm l tLe).nodup_iff.mpr nd
  refine (h1.and h2).imp fun {p q} h => ?_
  have h4 : p ≤ q := of_decide_eq_true h.1
  by_cases h5 : p < q
  · exact h5
  · exact absurd (List.le_antisymm h4 (List.not_lt.mp h5)) h.2
theorem sortedI_lt {l : List Int} (nd : l.Nodup) : (l.mergeSort leI).Pairwise (· < ·) := by
  have h1 : (l.mergeSort leI).Pairwise fun p q => leI p q = true := List.pairwise_mergeSort (fun a b c h1 h2 => by
    unfold leI at *
    exact decide_eq_true (Int.le_trans (of_decide_eq_true h1) (of_decide_eq_true h2))) (fun a b => by
    unfold leI
    rcases Int.le_total a b with h | h
    · rw [decide_eq_true h]; rfl
    · rw [decide_eq_true h, Bool.or_true]) l
  have h2 : (l.mergeSort leI).Nodup := (List.mergeSort_perm l leI).nodup_iff.mpr nd
  refine (h1.and h2).imp fun {p q} h => ?_
  have h4 : p ≤ q := of_decide_eq_true h.1
  have h5 : p ≠ q := h.2
  omega
theorem subs_sub {P : List Int} : ∀ {k : Nat} {f : List Int}, k ≤ P.length → f ∈ subs P k → f.Sublist (P.take k)
  | 0, f, _, h => by
    simp only [subs, List.mem_singleton] at h
    subst h
    exact List.nil_sublist _
  | k + 1, f, hk, h => by
    have e : P.take (k + 1) = P.take k ++ [P.getD k 0] := by
      rw [List.take_add_one, List.getD_eq_getElem?_getD, List.getElem?_eq_getElem (by omega)]
      rfl
    rw [e]
    simp only [subs, List.mem_append, List.mem_map] at h
    rcases h with h | ⟨g, h, rfl⟩
    · exact (subs_sub (by omega) h).trans (List.sublist_append_left _ _)
    · exact (subs_sub (by omega) h).append (List.Sublist.refl _)
theorem subs_nodup {P : List Int} (nd : P.Nodup) : ∀ k, k ≤ P.length → (subs P k).Nodup
  | 0, _ => by simp [subs]
  | k + 1, hk => by
    have ih := subs_nodup nd k (by omega)
    have e : P.take (k + 1) = P.take k ++ [P.getD k 0] := by
      rw [List.take_add_one, List.getD_eq_getElem?_getD, List.getElem?_eq_getElem (by omega)]
      rfl
    have nt : (P.take (k + 1)).Nodup := nd.sublist (List.take_sublist _ _)
    rw [e, List.nodup_append] at nt
    rw [subs, List.nodup_append]
    refine ⟨ih, ?_, fun a ha b hb => ?_⟩
    · exact List.pairwise_map.mpr (ih.imp fun {a b} h z => h (List.append_cancel_right z))
    · obtain ⟨g, _, rfl⟩ := List.mem_map.mp hb
      rintro rfl
      have h1 := (subs_sub (by omega) ha).subset (List.mem_append_right g (List.mem_singleton_self _))
      exact nt.2.2 _ h1 _ (List.mem_singleton_self _) rfl
theorem sub_filter : ∀ {f P : List Int}, f.Sublist P → P.Nodup → P.filter (fun x => decide (x ∈ f)) = f
  | _, _, .slnil, _ => rfl
  | f, a :: P, .cons _ h, nd => by
    have n := List.nodup_cons.mp nd
    have ha : a ∉ f := fun z => n.1 (h.subset z)
    rw [List.filter_cons_of_neg (by simpa using ha)]
    exact sub_filter h n.2
  | a :: f, _ :: P, .cons₂ _ h, nd => by
    have n := List.nodup_cons.mp nd
    rw [List.filter_cons_of_pos (by simp)]
    congr 1
    have : P.filter (fun x => decide (x ∈ a :: f)) = P.filter fun x => decide (x ∈ f) := List.filter_congr fun x hx => by
      have : x ≠ a := fun z => n.1 (z ▸ hx)
      simp [this]
    rw [this]
    exact sub_filter h n.2
/-! ### what is due -/
def there (ps : List (List Int)) (laid : List Int) (P : List Int) : List (List Int) := (subs P P.length).filter (lyB ps laid)
def rest (P f : List Int) : List Int := P.filter fun c => !decide (c ∈ f)
def more (f : List Int) (c : Int) : List Int := (f ++ [c]).mergeSort leI
def alone (th : List (List Int)) (P f : List Int) : Bool := decide ((rest P f).filter (fun c => decide (more f c ∈ th)) = [])
def dueL (ps : List (List Int)) (laid : List Int) (k : Nat) : List (List Int) := ((there ps laid (ps.getD k [])).filter (alone (there ps laid (ps.getD k [])) (ps.getD k []))).mergeSort tLe
theorem dueL_rev {ps : List (List Int)} {laid : List Int} {k : Nat} : dueL ps laid.reverse k = dueL ps laid k := by
  have e : lyB ps laid.reverse = lyB ps laid := funext lyB_rev
  unfold dueL there
  rw [e]
theorem alone_iff {th : List (List Int)} {P f : List Int} : alone th P f = true ↔ ∀ c ∈ P, c ∉ f → more f c ∉ th := by
  unfold alone rest
  rw [decide_eq_true_iff, List.filter_eq_nil_iff]
  simp
theorem more_eq {P f : List Int} {c : Int} (rp : P.Pairwise (· < ·)) (hf : ∀ x ∈ f, x ∈ P) (nf : f.Nodup) (hc : c ∈ P) (hcf : c ∉ f) : more f c = P.filter fun x => decide (x ∈ f ∨ x = c) := by
  have nd : (f ++ [c]).Nodup := by
    rw [List.nodup_append]
    refine ⟨nf, by simp, fun a ha b hb => ?_⟩
    rw [List.mem_singleton.mp hb]
    rintro rfl
    exact hcf ha
  refine rise_ext ltI_as (sortedI_lt nd) (rp.sublist List.filter_sublist) fun x => ?_
  unfold more
  rw [List.mem_mergeSort, List.mem_append, List.mem_singleton, List.mem_filter, decide_eq_true_iff]
  constructor
  · rintro (h | h)
    · exact ⟨hf x h, .inl h⟩
    · exact ⟨h ▸ hc, .inr h⟩
  · exact fun h => h.2
theorem shared_due {ps : List (List Int)} {laid : List Int} {k : Nat} {fs : List (List Int)} (cm : Cm ps laid k fs) (rp : (ps.getD k []).Pairwise (· < ·)) : top fs = dueL ps laid k := by
  unfold dueL
  have nP : (ps.getD k []).Nodup := rp.imp fun {a b} h => by omega
  have cm2 := cm.2
  generalize ps.getD k [] = P at cm2 rp nP
  have nS := subs_nodup nP P.length (Nat.le_refl _)
  have nT : (there ps laid P).Nodup := nS.sublist List.filter_sublist
  refine rise_ext ltL_as (cm.1.sublist List.filter_sublist) (sorted_lt (nT.sublist List.filter_sublist)) fun f => ?_
  rw [List.mem_mergeSort, List.mem_filter, alone_iff, top_iff]
  have key : ∀ f c o, o ∈ laid → f ∈ subs P P.length → c ∈ P → c ∉ f → (∀ x ∈ f, x ∈ pc ps o) → c ∈ pc ps o → more f c ∈ there ps laid P := by
    intro f c o ho hf hc hcf h1 h2
    have sl := subs_sub (Nat.le_refl _) hf
    rw [List.take_length] at sl
    have e := more_eq rp (fun x hx => sl.subset hx) (nP.sublist sl) hc hcf
    unfold there
    rw [List.mem_filter]
    refine ⟨?_, lyB_iff.mpr ⟨o, ho, fun x hx => ?_⟩⟩
    · rw [e]
      have := filter_subs P (fun x => decide (x ∈ f ∨ x = c)) P.length (Nat.le_refl _)
      rwa [List.take_length] at this
    · rw [e, List.mem_filter, decide_eq_true_iff] at hx
      rcases hx.2 with h | h
      · exact h1 x h
      · exact h ▸ h2
  constructor
  · rintro ⟨hf, hm⟩
    obtain ⟨o, ho, rfl⟩ := (cm2 f).mp hf
    have hS := comm_subs P (pc ps o)
    refine ⟨List.mem_filter.mpr ⟨hS, lyB_iff.mpr ⟨o, ho, fun x hx => (mem_comm.mp hx).2⟩⟩, fun c hc hcf hmo => ?_⟩
    obtain ⟨_, hl⟩ := List.mem_filter.mp hmo
    obtain ⟨o', ho', h⟩ := lyB_iff.mp hl
    have h1 : ∀ x ∈ comm P (pc ps o), x ∈ pc ps o' := fun x hx => h x (List.mem_mergeSort.mpr (List.mem_append_left _ hx))
    have h2 : c ∈ pc ps o' := h c (List.mem_mergeSort.mpr (List.mem_append_right _ (List.mem_singleton_self _)))
    have hh : comm P (pc ps o') ∈ fs := (cm2 _).mpr ⟨o', ho', rfl⟩
    have ne : comm P (pc ps o) ≠ comm P (pc ps o') := fun z => hcf (z ▸ mem_comm.mpr ⟨hc, h2⟩)
    have := hm _ hh ne
    rw [lies_iff.mpr fun x hx => mem_comm.mpr ⟨(mem_comm.mp hx).1, h1 x hx⟩] at this
    cases this
  · rintro ⟨ht, ha⟩
    obtain ⟨hS, hl⟩ := List.mem_filter.mp ht
    obtain ⟨o, ho, h⟩ := lyB_iff.mp hl
    have sl := subs_sub (Nat.le_refl _) hS
    rw [List.take_length] at sl
    have ef := sub_filter sl nP
    have sup : ∀ o' ∈ laid, (∀ x ∈ f, x ∈ pc ps o') → f = comm P (pc ps o') := fun o' ho' h' => by
      rw [← ef]
      unfold comm
      refine List.filter_congr fun x hx => ?_
      by_cases hxf : x ∈ f
      · simp [hxf, h' x hxf]
      · have : x ∉ pc ps o' := fun z => ha x hx hxf (key f x o' ho' hS hx hxf h' z)
        simp [hxf, this]
    refine ⟨(cm2 f).mpr ⟨o, ho, sup o ho h⟩, fun g hg ne => ?_⟩
    obtain ⟨o', ho', rfl⟩ := (cm2 g).mp hg
    cases e : lies f (comm P (pc ps o')) with
    | false => rfl
    | true => exact absurd (sup o' ho' fun x hx => (mem_comm.mp (lies_iff.mp e x hx)).2) ne
/-- the faces of P that lie in no laid piece -/
def freshL (ps : List (List Int)) (laid : List Int) (P : List Int) : List (List Int) := (subs P P.length).filter fun f => !lyB ps laid f
section
variable {ps : List (List Int)} {laid P : List Int}
theorem spare_lies {f : List Int} {c : Int} (hf : ∀ x ∈ f, x ∈ P) (hc : c ∈ spare ps laid P) (hcf : c ∉ f) : lyB ps laid f = true := by
  obtain ⟨_, o, ho, h⟩ := mem_spare.mp hc
  exact lyB_iff.mpr ⟨o, ho, fun x hx => h x (hf x hx) fun z => hcf (z ▸ hx)⟩
theorem fresh_fits (h : (subs P P.length).any (bad ps laid P) = false) : freshL ps laid P = (subs P P.length).filter fun f => (spare ps laid P).all fun c => decide (c ∈ f) := by
  unfold freshL
  refine List.filter_congr fun f hf => ?_
  have hb := List.any_eq_false.mp h f hf
  have hP := (subs_mem (Nat.le_refl _) hf).2
  cases hl : lyB ps laid f with
  | true =>
    symm
    rw [Bool.not_true, List.all_eq_false]
    refine Classical.byContradiction fun z => hb (bad_iff.mpr ⟨lyB_iff.mp hl, fun c hc => Classical.byContradiction fun y => z ⟨c, hc, by simpa using y⟩⟩)
  | false =>
    symm
    rw [Bool.not_false, List.all_eq_true]
    intro c hc
    refine decide_eq_true (Classical.byContradiction fun z => ?_)
    rw [spare_lies hP hc z] at hl
    cases hl
theorem least_spare : (P.filter fun c => (freshL ps laid P).all fun f => decide (c ∈ f)) = spare ps laid P := by
  unfold spare
  refine List.filter_congr fun c hc => ?_
  cases hl : lyB ps laid (less P c) with
  | true =>
    rw [List.all_eq_true]
    intro f hf
    obtain ⟨h1, h2⟩ := List.mem_filter.mp hf
    refine decide_eq_true (Classical.byContradiction fun z => ?_)
    have := spare_lies (ps := ps) (laid := laid) (subs_mem (Nat.le_refl _) h1).2 (List.mem_filter.mpr ⟨hc, hl⟩) z
    rw [this] at h2
    cases h2
  | false =>
    rw [List.all_eq_false]
    refine ⟨less P c, List.mem_filter.mpr ⟨?_, by rw [hl]; rfl⟩, ?_⟩
    · have := filter_subs P (fun x => !decide (x = c)) P.length (Nat.le_refl _)
      rwa [List.take_length] at this
    · rw [decide_eq_true_iff]
      exact fun z => (mem_less.mp z).2 rfl
theorem least_out (h : (subs P P.length).any (bad ps laid P) = true) : spare ps laid P ∉ freshL ps laid P := by
  obtain ⟨f, _, hb⟩ := List.any_eq_true.mp h
  obtain ⟨⟨o, ho, h1⟩, h2⟩ := bad_iff.mp hb
  intro z
  have := (List.mem_filter.mp z).2
  rw [lyB_iff.mpr ⟨o, ho, fun x hx => h1 x (h2 x hx)⟩] at this
  cases this
/-- a rising face lies in a rising piece just where it is one of its faces -/
theorem face_of {P' : List Int} {f : List Int} (rp : P'.Pairwise (· < ·)) (rf : f.Pairwise (· < ·)) : f ∈ subs P' P'.length ↔ ∀ x ∈ f, x ∈ P' := by
  constructor
  · exact fun h => (subs_mem (Nat.le_refl _) h).2
  · intro h
    have e : f = P'.filter fun x => decide (x ∈ f) := rise_ext ltI_as rf (rp.sublist List.filter_sublist) fun x => by
      rw [List.mem_filter, decide_eq_true_iff]
      exact ⟨fun hx => ⟨h x hx, hx⟩, fun hx => hx.2⟩
    have := filter_subs P' (fun x => decide (x ∈ f)) P'.length (Nat.le_refl _)
    rw [List.take_length, ← e] at this
    exact this
theorem face_rise (rp : P.Pairwise (· < ·)) {f : List Int} (h : f ∈ subs P P.length) : f.Pairwise (· < ·) := by
  have sl := subs_sub (Nat.le_refl _) h
  rw [List.take_length] at sl
  exact rp.sublist sl
end

/-! ### lists of tuples of one's own making -/
def LTs (K : PySem.W.Frag) (H : Hp) (l : Addr) (fs : List (List Int)) : Prop := ∃ bs : List (Addr × List Int), H l = some (.lst (bs.map fun b => .ref b.1)) ∧ (∀ b ∈ bs, H b.1 = some (.tup (b.2.map V.int))) ∧ bs.map (·.2) = fs
section
variable {K : PySem.W.Frag} {H H1 : Hp} {Q : VK} {a b L : Addr} {xs ys : List V} {j n : Nat} {te : TE} {vs : List Nat} {σ : L2.St} {F : Nat → List Int} {i : Nat} {acc : List V}
theorem LTs.lt {fs : List (List Int)} (h : LTs K H a fs) : LT K H a fs := let ⟨bs, h1, h2, h3⟩ := h; ⟨bs, h1, fun b hb => sqt_new (h2 b hb), h3⟩
theorem w_catAs (h1 : H a = some (.tup xs)) (h2 : H b = some (.tup ys)) (hz : xs.length + ys.length ≤ sizeLine) (q : ∀ t H', Ch [] H H' → H' t = some (.tup (xs ++ ys)) → Q (.ref t) H') : rCatA K (.ref a) (.ref b) H Q := by
  refine ⟨a, b, xs, ys, rfl, rfl, sqt_new h1, sqt_new h2, hz, fun e => ?_, fun _ e => ?_, fun _ _ p hp => q p _ (.new hp) upd_same⟩
  · subst e
    exact q b H .refl h2
  · subst e
    exact q a H .refl (by rw [List.append_nil]; exact h1)
def MadeS (H : Hp) (F : Nat → List Int) (_ : Addr) (i : Nat) (acc : List V) (H' : Hp) : Prop := Ch [] H H' ∧ ∃ cs : List (Addr × List Int), acc = cs.map (fun c => V.ref c.1) ∧ (∀ c ∈ cs, H' c.1 = some (.tup (c.2.map V.int))) ∧ cs.map (·.2) = (List.range i).map F
theorem madeS_turn (hL : H L = none) (ha : acc.length ≤ i) (hi : i < 10000000) (e : H1 L = some (.lst acc)) (m : MadeS H F L i acc H1)
    (ht : ∀ (Q : VK), (∀ t H2, Ch [] H1 H2 → H2 t = some (.tup ((F i).map V.int)) → Q (.ref t) H2) → te σ H1 Q) : LcTurn (MadeS H F) tYes te L i σ H1 := by
  obtain ⟨c, cs, rfl, h1, h2⟩ := m
  refine w_turnY (ht _ fun t H2 c2 e2 => w_lcput (c2.lst e) ha hi fun H5 c5 e5 => ?_)
  refine ⟨Ch.old (c.trans c2) hL c5, cs ++ [(t, F i)], by rw [List.map_append]; rfl, fun b hb => ?_, by rw [List.map_append, h2, List.range_succ, List.map_append]; rfl⟩
  rcases List.mem_append.mp hb with h | h
  · exact c5.tup _ _ (c2.tup _ _ (h1 b h))
  · rw [List.mem_singleton.mp h]
    exact c5.tup _ _ e2
theorem w_lcLTs (F : Nat → List Int) (hs : SqL K H a xs) (hw : ∀ x, wipe ((wipe σ vs).set j (some x)) vs = wipe σ vs) (hn : xs.length ≤ 10000000)
    (ht : ∀ (i : Nat) x H1 (Q : VK), xs[i]? = some x → Ch [] H H1 → (∀ t H2, Ch [] H1 H2 → H2 t = some (.tup ((F i).map V.int)) → Q (.ref t) H2) → te ((wipe σ vs).set j (some x)) H1 Q)
    (k : ∀ l H', H l = none → Ch [] H H' → LTs K H' l ((List.range xs.length).map F) → Q (.ref l) H') : LcGo (Itl K a) (gName j) tYes te vs σ H Q :=
  w_lcL (MadeS H F) (fun _ _ _ c _ => ⟨c, [], rfl, (fun _ h => nomatch h), rfl⟩) hw (fun L i acc H' hL e m => m.1.sql hs) (fun L i x acc H' hL hx ha e m => madeS_turn hL ha (by have := (List.getElem?_eq_some_iff.mp hx).1; omega) e m fun Q q => ht i x H' Q hx m.1 q) (fun L acc H' hL e m => by
    obtain ⟨c, cs, rfl, h1, h2⟩ := m
    exact k L H' hL c ⟨cs, e, h1, h2⟩)
end
/-! ### the law's own: all faces of a piece -/
def sp_lfaces (K : PySem.W.Frag) : Sp := fun vs H Q _ => ∃ (t : Addr) (ns : List Int), vs = [.ref t] ∧ SqT K H t (ns.map V.int) ∧ ns.length ≤ 10 ∧ ∀ l H', H l = none → Ch [] H H' → LTs K H' l (subs ns ns.length) → Q (.ref l) H'
def t_lfaces (K : PySem.W.Frag) : TS :=
    (tSeq (tAsg (tLst (tCons (tTup tNil) tNil)) (gName 1))
    (tSeq (tFor (iTup K (tVar 0)) (gName 2)
    (tAsg (tOp rCat (tVar 1) (tLc (iList K (tVar 1)) (gName 3) tYes (tOp (rCatA K) (tVar 3) (tTup (tCons (tVar 2) tNil))) [3])) (gName 1)))
    (tRet (tVar 1))))

theorem len_lfaces (K : PySem.W.Frag) : ∀ vs H Q E, sp_lfaces K vs H Q E → vs.length = 1 := by
  rintro vs H Q E ⟨n, m, rfl, _⟩
  rfl
theorem rd_lfaces {K : PySem.W.Frag} {H : Hp} {vs : List V} {Q : VK} {E : XK} {N : List Str} (h : sp_lfaces K vs H Q E) (hN : N.length = 4 := by rfl) : t_lfaces K { nx := fun _ H' => Q .non H', rt := Q } (start N vs) H := by
  obtain ⟨t, ns, rfl, ht, hz, k⟩ := h
  refine w_start (σ := [some (.ref t), none, none, none]) (by simp [L2.start, hN]) ?_
  unfold t_lfaces
  have p10 : ∀ i, i ≤ ns.length → 2 ^ i ≤ 1024 := fun i hi => Nat.le_trans (Nat.pow_le_pow_right (by decide) (show i ≤ 10 by omega)) (by decide)
  walk_at "rd"
  refine w_newA (by show 0 ≤ sizeLine; decide) fun e H1 he c1 e1 => ?_
  walk_at "rd"
  refine w_newA (by show 1 ≤ sizeLine; decide) fun l H2 hl c2 e2 => ?_
  walk_at "rd"
  refine w_goT (c2.sqt (c1.sqt ht)) ?_
  refine w_forT (xs := ns.map V.int) (fun i σ' H' => Ch [] H H' ∧ ∃ l o2 o3, H l = none ∧ LTs K H' l (subs ns i) ∧ σ' = [some (.ref t), some (.ref l), o2, o3]) ⟨c1.trans c2, l, none, none, c1.free hl, ⟨[(e, [])], e2, fun b hb => ?_, rfl⟩, rfl⟩ (fun i σ' H' _ m => m.1.sqt ht) ?_ ?_
  · rw [List.mem_singleton.mp hb]
    exact c2.tup _ _ e1
  · rintro i x σ' H3 hx ⟨c3, l, o2, o3, hl0, ⟨bs, e3, b1, b2⟩, rfl⟩
    obtain ⟨hi, rfl⟩ := int_at hx
    have bl : bs.length = 2 ^ i := by rw [← subs_len ns i, ← b2, List.length_map]
    have := p10 i (by omega)
    walk_at "rd"
    refine w_goL (SqL.of e3) ?_
    refine w_lcLTs (K := K) (fun j => (subs ns i).getD j [] ++ [ns.getD i 0]) (SqL.of e3) (fun _ => rfl) (by rw [List.length_map]; omega) ?_ ?_
    · intro j x H4 Q' hx c4 q
      dsimp only [wipe, List.set_cons_zero, List.set_cons_succ]
      rw [List.getElem?_map] at hx
      obtain ⟨b, hb, rfl⟩ := Option.map_eq_some_iff.mp hx
      have hb2 : (subs ns i).getD j [] = b.2 := by
        rw [← b2, List.getD_eq_getElem?_getD, List.getElem?_map, hb]
        rfl
      have hm := List.mem_of_getElem? hb
      have h4 := c4.tup _ _ (b1 b hm)
      have hfl : b.2.length ≤ i := (subs_mem (ns := ns) (k := i) (by omega) (by rw [← b2]; exact List.mem_map_of_mem hm)).1
      walk_at "rd"
      refine w_newA (by show 1 ≤ sizeLine; decide) fun u H5 hu5 c5 e5 => ?_
      refine w_catAs (c5.tup _ _ h4) e5 (by rw [sizeLine_eq, List.length_map]; show b.2.length + 1 ≤ _; omega) fun w H6 c6 e6 => q w H6 (c5.trans c6) ?_
      rw [hb2, List.map_append]
      exact e6
    · intro l2 H4 hl2 c4 ⟨cs, e4, d1, d2⟩
      rw [List.length_map, ← List.length_map (as := bs) (f := (·.2)), b2, map_getDL (subs ns i) (· ++ [ns.getD i 0])] at d2
      have cl : cs.length = 2 ^ i := by rw [← List.length_map (as := cs) (f := (·.2)), d2, List.length_map, subs_len]
      refine w_cat (c4.lst e3) e4 (by rw [sizeLine_eq, List.length_map, List.length_map]; omega) fun l3 H5 hl3 c5 e5 => ?_
      walk_at "rd"
      refine ⟨(c3.trans c4).trans c5, l3, _, _, c3.free (c4.free hl3), ⟨bs ++ cs, by rw [e5, List.map_append], fun b hb => ?_, by rw [List.map_append, b2, d2]; rfl⟩, rfl⟩
      rcases List.mem_append.mp hb with h | h
      · exact c5.tup _ _ (c4.tup _ _ (b1 b h))
      · exact c5.tup _ _ (d1 b h)
  · rintro σ' H3 ⟨c3, l, o2, o3, hl0, lt3, rfl⟩
    rw [List.length_map] at lt3
    walk_at "rd"
    exact k l H3 hl0 c3 lt3

section
variable {K : PySem.W.Frag} {H H1 : Hp} {Q : VK} {a L : Addr} {j n : Nat} {te : TE} {tt : TT} {vs : List Nat} {σ : L2.St} {i : Nat} {acc : List V}
theorem w_lcLF2 {ns : List Int} (g : Int → Bool) (hs : SqL K H a (ns.map V.int)) (hw : ∀ x, wipe ((wipe σ vs).set j (some x)) vs = wipe σ vs) (hn : ns.length ≤ 1000000)
    (ht : ∀ (i : Nat) H1 (QB : Bool → Hp → Prop), i < ns.length → Ch [] H H1 → (∀ H2, Ch [] H1 H2 → QB (g (ns.getD i 0)) H2) → tt ((wipe σ vs).set j (some (.int (ns.getD i 0)))) H1 QB)
    (he : ∀ (n : Int) H1 (Q : VK), Q (.int n) H1 → te ((wipe σ vs).set j (some (.int n))) H1 Q)
    (k : ∀ l H', H l = none → Ch [] H H' → H' l = some (.lst ((ns.filter g).map V.int)) → Q (.ref l) H') : LcGo (Itl K a) (gName j) tt te vs σ H Q :=
  w_lcL (fun _ i acc H' => Ch [] H H' ∧ acc = ((ns.take i).filter g).map V.int) (fun _ _ _ c _ => ⟨c, rfl⟩) hw (fun L i acc H' hL e m => m.1.sql hs) (fun L i x acc H' hL hx ha e m => by
    obtain ⟨hi, rfl⟩ := int_at hx
    exact filt_turn2 hi hn hL ha e m (fun QB q => ht i H' QB hi m.1 q) (fun H2 Q q => he _ H2 Q q)) (fun L acc H' hL e m => by
    obtain ⟨c, rfl⟩ := m
    rw [List.length_map, List.take_length] at e
    exact k L H' hL c e)
/-- some of a list of tuples -/
theorem w_lcLTF {fs : List (List Int)} (g : List Int → Bool) (h : LT K H a fs) (hw : ∀ x, wipe ((wipe σ vs).set j (some x)) vs = wipe σ vs) (hn : fs.length ≤ 1000000)
    (ht : ∀ (u : Addr) (f : List Int) H1 (QB : Bool → Hp → Prop), f ∈ fs → SqT K H1 u (f.map V.int) → Ch [] H H1 → (∀ H2, Ch [] H1 H2 → QB (g f) H2) → tt ((wipe σ vs).set j (some (.ref u))) H1 QB)
    (he : ∀ (u : Addr) H1 (Q : VK), Q (.ref u) H1 → te ((wipe σ vs).set j (some (.ref u))) H1 Q)
    (k : ∀ l H', H l = none → Ch [] H H' → LT K H' l (fs.filter g) → Q (.ref l) H') : LcGo (Itl K a) (gName j) tt te vs σ H Q := by
  obtain ⟨bs, eb, hb, hbs⟩ := h
  have hbl : bs.length = fs.length := by rw [← hbs, List.length_map]
  refine w_lcL (xs := bs.map fun b => V.ref b.1) (fun _ i acc H' => Ch [] H H' ∧ ∃ cs : List (Addr × List Int), acc = cs.map (fun c => V.ref c.1) ∧ (∀ c ∈ cs, SqT K H' c.1 (c.2.map V.int)) ∧ cs.map (·.2) = (fs.take i).filter g)
    (fun _ _ _ c _ => ⟨c, [], rfl, (fun _ h => nomatch h), rfl⟩) hw (fun L i acc H' hL e m => SqL.of (m.1.lst eb)) (fun L i x acc H' hL hx ha e m => ?_) (fun L acc H' hL e m => ?_)
  · rw [List.getElem?_map] at hx
    obtain ⟨b, hbi, rfl⟩ := Option.map_eq_some_iff.mp hx
    have hm := List.mem_of_getElem? hbi
    have hi : i < fs.length := by have := (List.getElem?_eq_some_iff.mp hbi).1; omega
    have hfi : fs.getD i [] = b.2 := by
      rw [← hbs, List.getD_eq_getElem?_getD, List.getElem?_map, hbi]
      rfl
    obtain ⟨c, cs, rfl, h1, h2⟩ := m
    refine w_turn (ht b.1 b.2 H' _ (by rw [← hbs]; exact List.mem_map_of_mem hm) (c.sqt (hb b hm)) c fun H2 c2 => ?_)
    have tf := take_filterL (p := g) hi
    rw [hfi] at tf
    by_cases hg : g b.2 = true
    · rw [if_pos hg]
      rw [if_pos hg] at tf
      refine he _ _ _ (w_lcput (c2.lst e) ha (by omega) fun H5 c5 e5 => ⟨Ch.old (c.trans c2) hL c5, cs ++ [b], by rw [List.map_append]; rfl, fun d hd => ?_, by rw [List.map_append, h2, tf]; rfl⟩)
      rcases List.mem_append.mp hd with h | h
      · exact c5.sqt (c2.sqt (h1 d h))
      · rw [List.mem_singleton.mp h]
        exact c5.sqt (c2.sqt (c.sqt (hb b hm)))
    · rw [if_neg hg]
      rw [if_neg hg, List.append_nil] at tf
      exact w_lcskip (c2.lst e) ha ⟨c.trans c2, cs, rfl, fun d hd => c2.sqt (h1 d hd), by rw [h2, tf]⟩
  · obtain ⟨c, cs, rfl, h1, h2⟩ := m
    rw [List.length_map, hbl, List.take_length] at h2
    exact k L H' hL c ⟨cs, e, h1, h2⟩
end

section
variable {K : PySem.W.Frag} {H H1 : Hp} {Q : VK} {a L : Addr} {j n : Nat} {te : TE} {tt : TT} {vs : List Nat} {σ : L2.St} {i : Nat} {acc : List V}
theorem w_lcRF2 (g : Int → Bool) (hw : ∀ x, wipe ((wipe σ vs).set j (some x)) vs = wipe σ vs) (hn : n ≤ 1000000)
    (ht : ∀ (i : Nat) H1 (QB : Bool → Hp → Prop), i < n → Ch [] H H1 → (∀ H2, Ch [] H1 H2 → QB (g (i : Int)) H2) → tt ((wipe σ vs).set j (some (.int (i : Int)))) H1 QB)
    (he : ∀ (n : Int) H1 (Q : VK), Q (.int n) H1 → te ((wipe σ vs).set j (some (.int n))) H1 Q)
    (k : ∀ l H', H l = none → Ch [] H H' → H' l = some (.lst (((upto n).filter g).map V.int)) → Q (.ref l) H') : LcGo (Itr 0 n) (gName j) tt te vs σ H Q :=
  w_lcR (fun _ i acc H' => Ch [] H H' ∧ acc = (((upto n).take i).filter g).map V.int) (fun _ _ _ c _ => ⟨c, rfl⟩) hw (fun L i acc H' hL hi ha e m => by
    have hl := upto_len n
    have hg := upto_get hi
    have := filt_turn2 (tt := tt) (te := te) (σ := (wipe σ vs).set j (some (.int (i : Int)))) (ns := upto n) (g := g) (i := i) (by omega) (by omega) hL ha e m (fun QB q => ht i H' QB hi m.1 (by rw [hg] at q; exact q)) (fun H2 Q q => he _ H2 Q (by rw [hg] at q; exact q))
    exact this) (fun L acc H' hL e m => by
    obtain ⟨c, rfl⟩ := m
    rw [List.take_of_length_le (by rw [upto_len]; exact Nat.le_refl _)] at e
    exact k L H' hL c e)
theorem w_ninL {p : Addr} {ns : List Int} {c : Int} (h : SqL K H p (ns.map V.int)) (q : Q (.bl (!decide (c ∈ ns))) H) : rIn K true (.int c) (.ref p) H Q := ⟨p, _, rfl, .inl h, rfl, flat_ints ns, by
  rw [if_pos rfl, inV_int]
  exact q⟩
end
/-! ### nexts -/
/-- what is asked of all pieces -/
def AsksA (K : PySem.W.Frag) (H : Hp) (t la : Addr) (ps : List (List Int)) (laid : List Int) : Prop := Shp K H t ps ∧ SqL K H la (laid.map V.int) ∧ laid.length ≤ 60 ∧ ps.length ≤ 60 ∧ (∀ o ∈ laid, 0 ≤ o ∧ o < ps.length) ∧ ∀ f ∈ ps, f.length ≤ 6 ∧ f.Nodup
def canB (ps : List (List Int)) (laid : List Int) (k : Int) : Bool := !decide (k ∈ laid) && dueB ps laid k.toNat
def sp_nexts (K : PySem.W.Frag) : Sp := fun vs H Q _ => ∃ (t la : Addr) (ps : List (List Int)) (laid : List Int), vs = [.ref t, .ref la] ∧ AsksA K H t la ps laid ∧ ∀ l H', H l = none → Ch [] H H' → H' l = some (.lst (((upto ps.length).filter (canB ps laid)).map V.int)) → Q (.ref l) H'
def t_nexts (K : PySem.W.Frag) : TS :=
    (tRet (tLc (iRng1 (tCons (tCB (rLenL K) (tCons (tVar 0) tNil)) tNil)) (gName 2) (tAnd (tTest (tOp (rIn K true) (tVar 2) (tVar 1))) (tB (tCall (sp_fits K) [] E0 (tCons (tVar 0) (tCons (tVar 1) (tCons (tVar 2) tNil)))))) (tVar 2) [2]))

theorem len_nexts (K : PySem.W.Frag) : ∀ vs H Q E, sp_nexts K vs H Q E → vs.length = 2 := by
  rintro vs H Q E ⟨p, m, n, _, rfl, _⟩
  rfl
theorem rd_nexts {K : PySem.W.Frag} {H : Hp} {vs : List V} {Q : VK} {E : XK} {N : List Str} (h : sp_nexts K vs H Q E) (hN : N.length = 3 := by rfl) : t_nexts K { nx := fun _ H' => Q .non H', rt := Q } (start N vs) H := by
  obtain ⟨t, la, ps, laid, rfl, ⟨hs, hla, hz, hp, ho, hps⟩, kk⟩ := h
  refine w_start (σ := [some (.ref t), some (.ref la), none]) (by simp [L2.start, hN]) ?_
  unfold t_nexts
  obtain ⟨xs, hx, hxl⟩ := hs.len
  walk_at "rd"
  refine w_rngN (n := ps.length) (by omega) (by omega) ?_
  refine w_lcRF2 (canB ps laid) (fun _ => rfl) (by omega) (fun i H1 QB hi c1 q => ?_) (fun z H1 Q' q => ?_) (fun l H1 hl c1 e1 => ?_)
  · dsimp only [wipe, List.set_cons_zero, List.set_cons_succ]
    walk_at "rd"
    refine w_ninL (c1.sql hla) ?_
    walk_at "rd"
    unfold canB at q
    refine w_itn (fun hn => ?_) (fun hn => ?_)
    · walk_at "rd"
      refine ⟨t, la, ps, laid, i, rfl, ⟨hs.keep c1, c1.sql hla, hz, hi, ho, hps⟩, fun H2 c2 => ?_⟩
      walk_at "rd"
      have := q H2 c2
      rwa [decide_eq_false hn] at this
    · have := q H1 .refl
      rwa [decide_eq_true hn] at this
  · dsimp only [wipe, List.set_cons_zero, List.set_cons_succ]
    walk_at "rd"
    exact q
  · exact kk l H1 hl c1 e1
/-! ### the faces that lie in no laid piece -/
def sp_lfresh (K : PySem.W.Frag) : Sp := fun vs H Q _ => ∃ (t la : Addr) (ps : List (List Int)) (laid : List Int) (k : Nat), vs = [.ref t, .ref la, .int k] ∧ Asks K H t la ps laid k ∧ ∀ l H', H l = none → Ch [] H H' → LT K H' l (freshL ps laid (ps.getD k [])) → Q (.ref l) H'
def t_lfresh (K : PySem.W.Frag) : TS :=
    (tRet (tLc (iList K (tCall (sp_lfaces K) [] E0 (tCons (tOp (rIxT K) (tVar 0) (tVar 2)) tNil))) (gName 3) (tNot (tB (tCall (sp_llies K) [] E0 (tCons (tVar 3) (tCons (tVar 0) (tCons (tVar 1) tNil)))))) (tVar 3) [3]))

theorem len_lfresh (K : PySem.W.Frag) : ∀ vs H Q E, sp_lfresh K vs H Q E → vs.length = 3 := by
  rintro vs H Q E ⟨p, m, n, _, _, rfl, _⟩
  rfl
theorem rd_lfresh {K : PySem.W.Frag} {H : Hp} {vs : List V} {Q : VK} {E : XK} {N : List Str} (h : sp_lfresh K vs H Q E) (hN : N.length = 4 := by rfl) : t_lfresh K { nx := fun _ H' => Q .non H', rt := Q } (start N vs) H := by
  obtain ⟨t, la, ps, laid, k, rfl, ha, kk⟩ := h
  have hpk := ha.piece
  obtain ⟨hs, hla, hz, hk, ho, hps⟩ := ha
  have hP := hps _ hpk
  refine w_start (σ := [some (.ref t), some (.ref la), some (.int k), none]) (by simp [L2.start, hN]) ?_
  unfold t_lfresh
  walk_at "rd"
  refine w_ixShp hs rfl hk fun u hu => ?_
  walk_at "rd"
  refine ⟨u, _, rfl, hu, by omega, fun fl H1 hfl c1 lt1s => ?_⟩
  have lt1 := lt1s.lt
  obtain ⟨bs1, eb1, _⟩ := id lt1
  have ln1 : (subs (ps.getD k []) (ps.getD k []).length).length ≤ 64 := by
    rw [subs_len]
    exact Nat.le_trans (Nat.pow_le_pow_right (by decide) hP.1) (by decide)
  refine w_goL (SqL.of eb1) ?_
  refine w_lcLTF (fun f => !lyB ps laid f) lt1 (fun _ => rfl) (by omega) (fun v f H2 QB hf hv c2 q => ?_) (fun v H2 Q' q => ?_) (fun tl H2 htl c2 lt2 => kk tl H2 (c1.free htl) (c1.trans c2) lt2)
  · dsimp only [wipe, List.set_cons_zero, List.set_cons_succ]
    have := (subs_mem (Nat.le_refl _) hf).1
    walk_at "rd"
    refine ⟨v, t, la, f, ps, laid, rfl, .inr hv, by omega, (hs.keep c1).keep c2, c2.sql (c1.sql hla), ho, fun H3 c3 => ?_⟩
    walk_at "rd"
    exact q H3 c3
  · dsimp only [wipe, List.set_cons_zero, List.set_cons_succ]
    walk_at "rd"
    exact q

theorem eqv_tups (fs gs : List (List Int)) (h : fs = gs) : PyData.eqv (.list (fs.map encT)) (.list (gs.map encT)) = true := by
  subst h
  have hh : ∀ fs : List (List Int), PyData.eqvAll (fs.map encT) (fs.map encT) = true := by
    intro fs
    induction fs with
    | nil => simp [PyData.eqvAll]
    | cons f fs ih =>
      have e : PyData.eqv (encT f) (encT f) = true := by
        unfold encT
        rw [eqv_ints]
        simp
      simp only [List.map_cons, PyData.eqvAll, ih, e]
      rfl
  simp only [PyData.eqv, hh]
theorem w_eqLT {K : PySem.W.Frag} {H : Hp} {Q : VK} {a b : Addr} {fs : List (List Int)} (h1 : LT K H a fs) (h2 : LT K H b fs) (q : Q (.bl true) H) : rEqD K (.ref a) (.ref b) H Q := ⟨_, _, h1.dp, h2.dp, shaped_tups fs, shaped_tups fs, by rw [eqv_tups fs fs rfl]; exact q⟩

theorem w_eqLN {K : PySem.W.Frag} {H : Hp} {Q : VK} {a b : Addr} {fs : List (List Int)} (h1 : LT K H a fs) (h2 : H b = some (.lst [])) (q : Q (.bl (decide (fs = []))) H) : rEqD K (.ref a) (.ref b) H Q := by
  have l2 : LT K H b [] := ⟨[], h2, (fun _ h => nomatch h), rfl⟩
  refine ⟨_, _, h1.dp, l2.dp, shaped_tups fs, shaped_tups [], ?_⟩
  have e : PyData.eqv (.list (fs.map encT)) (.list (([] : List (List Int)).map encT)) = decide (fs = []) := by
    cases fs with
    | nil => simp [PyData.eqv, PyData.eqvAll]
    | cons f fs => simp [PyData.eqv, PyData.eqvAll]
  rw [e]
  exact q
/-- what brings told -/
def BrR (K : PySem.W.Frag) (H : Hp) (x : V) (ps : List (List Int)) (laid : List Int) (k : Nat) : Prop := (dueB ps laid k = false ∧ x = .non) ∨ (dueB ps laid k = true ∧ ∃ u, x = .ref u ∧ SqT K H u ((spare ps laid (ps.getD k [])).map V.int))
theorem BrR.keep {K : PySem.W.Frag} {H H' : Hp} {x : V} {ps : List (List Int)} {laid : List Int} {k : Nat} {S : List Addr} (h : BrR K H x ps laid k) (c : Ch S H H') : BrR K H' x ps laid k := by
  rcases h with h | ⟨h1, u, h2, h3⟩
  · exact .inl h
  · exact .inr ⟨h1, u, h2, c.sqt h3⟩
theorem BrR.some {K : PySem.W.Frag} {H : Hp} {x : V} {ps : List (List Int)} {laid : List Int} {k : Nat} (h : BrR K H x ps laid k) : (!decide (x = V.non)) = dueB ps laid k := by
  rcases h with ⟨h1, rfl⟩ | ⟨h1, u, rfl, h3⟩
  · rw [h1]
    rfl
  · rw [h1]
    simp
theorem w_brx {K : PySem.W.Frag} {H : Hp} {Q : VK} {t la : Addr} {ps : List (List Int)} {laid : List Int} {k : Nat} (ha : Asks K H t la ps laid k) (q : ∀ x H', Ch [] H H' → BrR K H' x ps laid k → Q x H') : sp_brings K ([.ref t, .ref la, .int k] ++ []) H Q E0 :=
  ⟨t, la, ps, laid, k, rfl, ha, fun hd H' c => q _ H' c (.inl ⟨hd, rfl⟩), fun hd u H' c e => q _ H' c (.inr ⟨hd, u, rfl, e⟩)⟩
theorem all_filter {α : Type} (l : List α) (p : α → Bool) : decide (l.filter (fun x => !p x) = []) = l.all p := by
  rw [Bool.eq_iff_iff, decide_eq_true_iff, List.filter_eq_nil_iff, List.all_eq_true]
  simp
def sp_lright (K : PySem.W.Frag) : Sp := fun vs H Q _ => ∃ (t la : Addr) (ps : List (List Int)) (laid : List Int) (k : Nat), vs = [.ref t, .ref la, .int k] ∧ Asks K H t la ps laid k ∧ ∀ H', Ch [] H H' → Q (.bl true) H'
def t_lright (K : PySem.W.Frag) : TS :=
    (tSeq (tAsg (tCall (sp_shared K) [] E0 (tCons (tVar 0) (tCons (tCB (rListOf K) (tCons (tVar 1) tNil)) (tCons (tVar 2) tNil)))) (gName 3))
    (tSeq (tAsg (tCall (sp_fits K) [] E0 (tCons (tVar 0) (tCons (tCB (rListOf K) (tCons (tVar 1) tNil)) (tCons (tVar 2) tNil)))) (gName 4))
    (tSeq (tAsg (tCall (sp_brings K) [] E0 (tCons (tVar 0) (tCons (tCB (rListOf K) (tCons (tVar 1) tNil)) (tCons (tVar 2) tNil)))) (gName 5))
    (tSeq (tIfS (tTest (tOp rNe (tVar 4) (tOp (rEqD K) (tLc (iList K (tVar 3)) (gName 8) (tTest (tOp rNe (tCB (rLenL K) (tCons (tVar 8) tNil)) (tOp rSub (tCB (rLenL K) (tCons (tOp (rIxT K) (tVar 0) (tVar 2)) tNil)) (tC (.int 1))))) (tVar 8) [8]) (tLst tNil)))) (tRet (tC (.bl false))) tNext)
    (tSeq (tIfS (tTest (tOp rNe (tVar 4) (tOp rNotN (tVar 5) (tC .non)))) (tRet (tC (.bl false))) tNext)
    (tSeq (tAsg (tCall (sp_lfresh K) [] E0 (tCons (tVar 0) (tCons (tVar 1) (tCons (tVar 2) tNil)))) (gName 6))
    (tSeq (tIfS (tNot (tB (tVar 4))) (tSeq (tAsg (tCB (rTupOf K) (tCons (tLc (iTup K (tOp (rIxT K) (tVar 0) (tVar 2))) (gName 9) (tB (tCB (rAll K) (tCons (tLc (iList K (tVar 6)) (gName 8) tYes (tOp (rIn K false) (tVar 9) (tVar 8)) [8]) tNil))) (tVar 9) [9]) tNil)) (gName 7))
    (tRet (tOp (rNotInD K) (tVar 7) (tVar 6)))) tNext)
    (tRet (tOp (rEqD K) (tVar 6) (tLc (iList K (tCall (sp_lfaces K) [] E0 (tCons (tOp (rIxT K) (tVar 0) (tVar 2)) tNil))) (gName 8) (tB (tCB (rAll K) (tCons (tLc (iTup K (tVar 5)) (gName 9) tYes (tOp (rIn K false) (tVar 9) (tVar 8)) [9]) tNil))) (tVar 8) [8]))))))))))

theorem len_lright (K : PySem.W.Frag) : ∀ vs H Q E, sp_lright K vs H Q E → vs.length = 3 := by
  rintro vs H Q E ⟨p, m, n, _, _, rfl, _⟩
  rfl
theorem rd_lright {K : PySem.W.Frag} {H : Hp} {vs : List V} {Q : VK} {E : XK} {N : List Str} (h : sp_lright K vs H Q E) (hN : N.length = 10 := by rfl) : t_lright K { nx := fun _ H' => Q .non H', rt := Q } (start N vs) H := by
  obtain ⟨t, la, ps, laid, k, rfl, ha, kk⟩ := h
  have hpk := ha.piece
  have ask : ∀ {H' : Hp} {l : Addr}, Ch [] H H' → H' l = some (.lst (laid.map V.int)) → Asks K H' t l ps laid k := fun c e => ⟨ha.1.keep c, SqL.of e, ha.2.2⟩
  have ask0 : ∀ {H' : Hp}, Ch [] H H' → Asks K H' t la ps laid k := fun c => ⟨ha.1.keep c, c.sql ha.2.1, ha.2.2⟩
  obtain ⟨hs, hla, hz, hk, ho, hps⟩ := ha
  have hP := hps _ hpk
  refine w_start (σ := [some (.ref t), some (.ref la), some (.int k), none, none, none, none, none, none, none]) (by simp [L2.start, hN]) ?_
  unfold t_lright
  walk_at "rd"
  refine w_listL hla fun l1 H1 hl1 c1 e1 => ?_
  walk_at "rd"
  have a1 := ask c1 e1
  refine ⟨t, l1, ps, laid, k, rfl, a1.1, a1.2.1, hz, hk, ho, fun f hf => Nat.le_trans (hps f hf).1 (by decide), fun gl fs H2 cm fln hgl c2 lt2 => ?_⟩
  have c02 := c1.trans c2
  have fd := fits_due cm hP.2
  have tl : (top fs).length ≤ 64 := Nat.le_trans (List.length_filter_le _ _) (by omega)
  walk_at "rd"
  refine w_listL (c02.sql hla) fun l3 H3 hl3 c3 e3 => ?_
  walk_at "rd"
  have c03 := c02.trans c3
  refine ⟨t, l3, ps, laid, k, rfl, ask c03 e3, fun H4 c4 => ?_⟩
  have c04 := c03.trans c4
  walk_at "rd"
  refine w_listL (c04.sql hla) fun l5 H5 hl5 c5 e5 => ?_
  walk_at "rd"
  have c05 := c04.trans c5
  refine w_brx (ask c05 e5) fun x H6 c6 br6 => ?_
  have c06 := c05.trans c6
  have lt6 := (((lt2.keep c3).keep c4).keep c5).keep c6
  obtain ⟨bs, eb, _⟩ := id lt6
  walk_at "rd"
  refine w_goL (SqL.of eb) ?_
  refine w_lcLTF (fun f => !decide ((f.length : Int) = ((ps.getD k []).length : Int) - 1)) lt6 (fun _ => rfl) (by omega) (fun v f H7 QB hf hv c7 q => ?_) (fun v H7 Q' q => ?_) (fun ol H7 hol c7 lt7 => ?_)
  · dsimp only [wipe, List.set_cons_zero, List.set_cons_succ]
    walk_at "rd"
    refine w_ixShp ((hs.keep c06).keep c7) rfl hk fun u hu => ?_
    walk_at "rd"
    have := q H7 .refl
    rwa [List.length_map, List.length_map]
  · dsimp only [wipe, List.set_cons_zero, List.set_cons_succ]
    walk_at "rd"
    exact q
  walk_at "rd"
  refine w_newA (by show 0 ≤ sizeLine; decide) fun nl H8 hnl c8 e8 => ?_
  refine w_eqLN (lt7.keep c8) e8 ?_
  have c08 := c06.trans (c7.trans c8)
  have br8 := (br6.keep c7).keep c8
  rw [all_filter (top fs) fun f => decide ((f.length : Int) = ((ps.getD k []).length : Int) - 1), fd]
  walk_at "rd"
  refine w_itn (fun hz => absurd rfl hz) (fun _ => ?_)
  walk_at "rd"
  refine ⟨rfl, ?_⟩
  rw [br8.some]
  walk_at "rd"
  refine w_itn (fun hz => absurd rfl hz) (fun _ => ?_)
  walk_at "rd"
  refine ⟨t, la, ps, laid, k, rfl, ask0 c08, fun fl H9 hfl c9 lt9 => ?_⟩
  have c09 := c08.trans c9
  have br9 := br8.keep c9
  have ln1 : (subs (ps.getD k []) (ps.getD k []).length).length ≤ 64 := by
    rw [subs_len]
    exact Nat.le_trans (Nat.pow_le_pow_right (by decide) hP.1) (by decide)
  have frl : (freshL ps laid (ps.getD k [])).length ≤ 64 := Nat.le_trans (List.length_filter_le _ _) ln1
  walk_at "rd"
  rcases br9 with ⟨hd, rfl⟩ | ⟨hd, u, rfl, hu9⟩
  · rw [hd]
    walk_at "rd"
    refine w_ixShp (hs.keep c09) rfl hk fun u hu => ?_
    refine w_goT hu ?_
    refine w_lcTF2 (fun c => (freshL ps laid (ps.getD k [])).all fun f => decide (c ∈ f)) hu (fun _ => rfl) (by omega) (fun j Ha QB hj ca q => ?_) (fun z Ha Q' q => ?_) (fun l Ha hl ca ea => ?_)
    · dsimp only [wipe, List.set_cons_zero, List.set_cons_succ]
      have lta := lt9.keep ca
      obtain ⟨ds, ed, hdd, hds⟩ := id lta
      walk_at "rd"
      refine w_goL (SqL.of ed) ?_
      refine w_lcLV (fun i => .bl (decide ((ps.getD k []).getD j 0 ∈ (freshL ps laid (ps.getD k [])).getD i []))) (SqL.of ed) (fun _ => rfl) (by rw [List.length_map, ← List.length_map (as := ds) (f := (·.2)), hds]; omega) (fun i y Hb Q' hy cb k' => ?_) (fun l Hb hl cb eb => ?_)
      · rw [List.getElem?_map] at hy
        obtain ⟨d, hdi, rfl⟩ := Option.map_eq_some_iff.mp hy
        have hfi : (freshL ps laid (ps.getD k [])).getD i [] = d.2 := by
          rw [← hds, List.getD_eq_getElem?_getD, List.getElem?_map, hdi]
          rfl
        have hdb := cb.sqt (hdd d (List.mem_of_getElem? hdi))
        dsimp only [wipe, List.set_cons_zero, List.set_cons_succ]
        rw [hfi] at k'
        walk_at "rd"
        exact k' Hb .refl
      · rw [List.length_map, ← List.length_map (as := ds) (f := (·.2)), hds, map_getDL (freshL ps laid (ps.getD k [])) (fun f => V.bl (decide ((ps.getD k []).getD j 0 ∈ f))), show (freshL ps laid (ps.getD k [])).map (fun f => V.bl (decide ((ps.getD k []).getD j 0 ∈ f))) = ((freshL ps laid (ps.getD k [])).map fun f => decide ((ps.getD k []).getD j 0 ∈ f)).map V.bl by rw [List.map_map]; rfl] at eb
        walk_at "rd"
        refine w_all (SqL.of eb) ?_
        rw [List.all_map]
        walk_at "rd"
        exact q Hb cb
    · dsimp only [wipe, List.set_cons_zero, List.set_cons_succ]
      walk_at "rd"
      exact q
    · rw [least_spare] at ea
      walk_at "rd"
      refine w_tupOf (SqL.of ea) fun lt Hb cb eb => ?_
      walk_at "rd"
      refine w_ninD eb ((lt9.keep ca).keep cb) ?_
      have hany : (subs (ps.getD k []) (ps.getD k []).length).any (bad ps laid (ps.getD k [])) = true := by
        unfold dueB at hd
        simpa using hd
      rw [decide_eq_false (least_out hany)]
      exact kk _ (c09.trans (ca.trans cb))
  · rw [hd]
    have hany : (subs (ps.getD k []) (ps.getD k []).length).any (bad ps laid (ps.getD k [])) = false := by
      unfold dueB at hd
      simpa using hd
    have spl : (spare ps laid (ps.getD k [])).length ≤ 6 := Nat.le_trans (List.length_filter_le _ _) hP.1
    walk_at "rd"
    refine w_ixShp (hs.keep c09) rfl hk fun v hv => ?_
    walk_at "rd"
    refine ⟨v, _, rfl, hv, by omega, fun al Ha hal ca ltas => ?_⟩
    have lta := ltas.lt
    obtain ⟨bs2, eb2, _⟩ := id lta
    refine w_goL (SqL.of eb2) ?_
    refine w_lcLTF (fun f => (spare ps laid (ps.getD k [])).all fun c => decide (c ∈ f)) lta (fun _ => rfl) (by omega) (fun z f Hb QB hf hv2 cb q => ?_) (fun z Hb Q' q => ?_) (fun ol2 Hb hol2 cb ltb => ?_)
    · dsimp only [wipe, List.set_cons_zero, List.set_cons_succ]
      have hub := cb.sqt (ca.sqt hu9)
      walk_at "rd"
      refine w_goT hub ?_
      refine w_lcTV (fun i => .bl (decide ((spare ps laid (ps.getD k [])).getD i 0 ∈ f))) hub (fun _ => rfl) (by rw [List.length_map]; omega) (fun i y Hc Q' hy cc k' => ?_) (fun l Hc hl cc ec => ?_)
      · obtain ⟨hi, rfl⟩ := int_at hy
        have hv3 := cc.sqt hv2
        dsimp only [wipe, List.set_cons_zero, List.set_cons_succ]
        walk_at "rd"
        exact k' Hc .refl
      · rw [List.length_map, map_getD (spare ps laid (ps.getD k [])) (fun c => V.bl (decide (c ∈ f))), show (spare ps laid (ps.getD k [])).map (fun c => V.bl (decide (c ∈ f))) = ((spare ps laid (ps.getD k [])).map fun c => decide (c ∈ f)).map V.bl by rw [List.map_map]; rfl] at ec
        walk_at "rd"
        refine w_all (SqL.of ec) ?_
        rw [all_map_id]
        walk_at "rd"
        exact q Hc cc
    · dsimp only [wipe, List.set_cons_zero, List.set_cons_succ]
      walk_at "rd"
      exact q
    · rw [← fresh_fits hany] at ltb
      exact w_eqLT ((lt9.keep ca).keep cb) ltb (kk _ (c09.trans (ca.trans cb)))
/-- how many faces were new, time by time -/
def cnt (ps : List (List Int)) (laid : List Int) : Nat := ((List.range laid.length).map fun i => (freshL ps (laid.take i) (pc ps (laid.getD i 0))).length).sum
theorem cnt_snoc (ps : List (List Int)) (laid : List Int) (k : Int) : cnt ps (laid ++ [k]) = cnt ps laid + (freshL ps laid (pc ps k)).length := by
  unfold cnt
  rw [List.length_append, List.length_singleton, List.range_succ, List.map_append, List.sum_append]
  congr 1
  · congr 1
    refine List.map_congr_left fun i hi => ?_
    have hi := List.mem_range.mp hi
    rw [List.take_append_of_le_length (by omega), List.getD_eq_getElem?_getD, List.getElem?_append_left hi, List.getD_eq_getElem?_getD]
  · simp
theorem cnt_take (ps : List (List Int)) (laid : List Int) {i : Nat} (h : i < laid.length) : cnt ps (laid.take (i + 1)) = cnt ps (laid.take i) + (freshL ps (laid.take i) (pc ps (laid.getD i 0))).length := by
  rw [← cnt_snoc]
  congr 1
  rw [List.take_add_one, List.getD_eq_getElem?_getD, List.getElem?_eq_getElem h]
  rfl
/-- a dict of faces -/
def keysD (ks : List (List Int)) : List (List Key × V) := ks.map fun f => (f.map Sum.inl, V.bl true)
theorem key_inj {f g : List Int} (h : (f.map (Sum.inl : Int → Key)) = g.map Sum.inl) : f = g := by
  induction f generalizing g with
  | nil =>
    cases g with
    | nil => rfl
    | cons a g => cases h
  | cons a f ih =>
    cases g with
    | nil => cases h
    | cons b g =>
      rw [List.map_cons, List.map_cons, List.cons.injEq] at h
      rw [ih h.2, Sum.inl.inj h.1]
theorem key_V (f : List Int) : (f.map (Sum.inl : Int → Key)).map kV = f.map V.int := by
  rw [List.map_map]
  rfl
theorem put_in {ks : List (List Int)} {f : List Int} (h : f ∈ ks) : putK (keysD ks) (f.map Sum.inl) (.bl true) = keysD ks := by
  unfold putK
  rw [if_pos]
  · unfold keysD
    rw [List.map_map]
    refine List.map_congr_left fun g _ => ?_
    show (if (g.map Sum.inl : List Key) = f.map Sum.inl then _ else _) = _
    split <;> rfl
  · rw [List.any_eq_true]
    exact ⟨_, List.mem_map_of_mem (f := fun f : List Int => ((f.map Sum.inl : List Key), V.bl true)) h, decide_eq_true rfl⟩
theorem put_out {ks : List (List Int)} {f : List Int} (h : f ∉ ks) : putK (keysD ks) (f.map Sum.inl) (.bl true) = keysD (ks ++ [f]) := by
  unfold putK
  rw [if_neg]
  · unfold keysD
    rw [List.map_append]
    rfl
  · rw [List.any_eq_true]
    rintro ⟨p, hp, e⟩
    obtain ⟨g, hg, rfl⟩ := List.mem_map.mp hp
    exact h (key_inj (of_decide_eq_true e) ▸ hg)
/-- what the dict holds behind some faces of a piece -/
def grown (ks S : List (List Int)) : List (List Int) := ks ++ S.filter fun f => !decide (f ∈ ks)
theorem grown_put {ks S : List (List Int)} {i : Nat} {f : List Int} (nd : S.Nodup) (h : S[i]? = some f) : putK (keysD (grown ks (S.take i))) (f.map Sum.inl) (.bl true) = keysD (grown ks (S.take (i + 1))) := by
  have hi := (List.getElem?_eq_some_iff.mp h).1
  have e : S.take (i + 1) = S.take i ++ [f] := by rw [List.take_add_one, h]; rfl
  have hn : f ∉ S.take i := by
    have : (S.take (i + 1)).Nodup := nd.sublist (List.take_sublist _ _)
    rw [e, List.nodup_append] at this
    exact fun z => this.2.2 f z f (List.mem_singleton_self _) rfl
  by_cases hk : f ∈ ks
  · rw [put_in (by unfold grown; exact List.mem_append_left _ hk)]
    unfold grown
    rw [e, List.filter_append, List.filter_cons_of_neg (by simpa using hk), List.filter_nil, List.append_nil]
  · rw [put_out (by
      unfold grown
      rw [List.mem_append]
      rintro (z | z)
      · exact hk z
      · exact hn (List.mem_filter.mp z).1)]
    unfold grown
    rw [e, List.filter_append, List.filter_cons_of_pos (by simpa using hk), List.filter_nil, List.append_assoc]
/-- the faces of the laid pieces -/
def AllF (ps : List (List Int)) (laid : List Int) (ks : List (List Int)) : Prop := ks.Nodup ∧ (∀ f, f ∈ ks ↔ ∃ o ∈ laid, f ∈ subs (pc ps o) (pc ps o).length) ∧ ks.length = cnt ps laid
theorem allF_next {ps : List (List Int)} {laid : List Int} {ks : List (List Int)} {k : Int} (h : AllF ps laid ks) (hr : ∀ o ∈ laid, (pc ps o).Pairwise (· < ·)) (hk : (pc ps k).Pairwise (· < ·)) : AllF ps (laid ++ [k]) (grown ks (subs (pc ps k) (pc ps k).length)) := by
  obtain ⟨h1, h2, h3⟩ := h
  have nS := subs_nodup (P := pc ps k) (hk.imp fun {a b} h => by omega) _ (Nat.le_refl _)
  have e : (subs (pc ps k) (pc ps k).length).filter (fun f => !decide (f ∈ ks)) = freshL ps laid (pc ps k) := by
    unfold freshL
    refine List.filter_congr fun f hf => ?_
    have rf := face_rise hk hf
    congr 1
    rw [Bool.eq_iff_iff, decide_eq_true_iff, h2 f, lyB_iff]
    exact ⟨fun ⟨o, ho, h⟩ => ⟨o, ho, (face_of (hr o ho) rf).mp h⟩, fun ⟨o, ho, h⟩ => ⟨o, ho, (face_of (hr o ho) rf).mpr h⟩⟩
  refine ⟨?_, fun f => ?_, ?_⟩
  · unfold grown
    rw [List.nodup_append]
    refine ⟨h1, nS.sublist List.filter_sublist, fun a ha b hb => ?_⟩
    rintro rfl
    have := (List.mem_filter.mp hb).2
    simp [ha] at this
  · unfold grown
    rw [List.mem_append, List.mem_filter]
    constructor
    · rintro (h | ⟨h, _⟩)
      · obtain ⟨o, ho, h⟩ := (h2 f).mp h
        exact ⟨o, List.mem_append_left _ ho, h⟩
      · exact ⟨k, List.mem_append_right _ (List.mem_singleton_self _), h⟩
    · rintro ⟨o, ho, h⟩
      rcases List.mem_append.mp ho with ho | ho
      · exact .inl ((h2 f).mpr ⟨o, ho, h⟩)
      · rw [List.mem_singleton.mp ho] at h
        by_cases hk : f ∈ ks
        · exact .inl hk
        · exact .inr ⟨h, by simpa using hk⟩
  · unfold grown
    rw [List.length_append, e, h3, cnt_snoc]

theorem units1 {k : Nat} {A : PySem.Around} (r : Room k A) : A.units + 1 < PySem.cLine := by have := r.un; omega
theorem rise_nodup {f : List Int} (h : f.Pairwise (· < ·)) : f.Nodup := h.imp fun {a b} h => by omega
def PsR (ps : List (List Int)) : Prop := ∀ f ∈ ps, f.length ≤ 6 ∧ f.Pairwise (· < ·)
/-! ### all sides of a face, in a drawn order -/
def sp_lsides (K : PySem.W.Frag) : Sp := fun vs H Q _ => ∃ (p : Addr) (n : Nat), vs = [.ref p] ∧ Pen K H p n ∧ n < 999900000 ∧
  ∀ t (ps : List (List Int)) H', 1 ≤ ps.length → ps.length ≤ 50 → PsR ps → Ch [p] H H' → Pen K H' p (n + 20) → Shp K H' t ps → Q (.ref t) H'
def t_lsides (K : PySem.W.Frag) : TS :=
    (tSeq (tAsg (tCall (sp_lcorners K) [] E0 (tCons (tVar 0) (tCons (tOp rAdd (tC (.int 2)) (tCall (sp_ldraw K) [] E0 (tCons (tVar 0) (tCons (tC (.int 6)) tNil)))) tNil))) (gName 1))
    (tSeq (tAsg (tLc (iList K (tVar 1)) (gName 3) tYes (tCB (rTupOf K) (tCons (tLc (iList K (tVar 1)) (gName 4) (tTest (tOp rNe (tVar 4) (tVar 3))) (tVar 4) [4]) tNil)) [3]) (gName 2))
    (tRet (tCB (rTupOf K) (tCons (tCall (sp_lpicked K) [] E0 (tCons (tVar 0) (tCons (tVar 2) (tCons (tCB (rLenL K) (tCons (tVar 2) tNil)) tNil)))) tNil)))))

theorem len_lsides (K : PySem.W.Frag) : ∀ vs H Q E, sp_lsides K vs H Q E → vs.length = 1 := by
  rintro vs H Q E ⟨p, n, rfl, _⟩
  rfl
theorem rd_lsides {K : PySem.W.Frag} {H : Hp} {vs : List V} {Q : VK} {E : XK} {N : List Str} (h : sp_lsides K vs H Q E) (hN : N.length = 5 := by rfl) : t_lsides K { nx := fun _ H' => Q .non H', rt := Q } (start N vs) H := by
  obtain ⟨p, n, rfl, hp, nb, kk⟩ := h
  refine w_start (σ := [some (.ref p), none, none, none, none]) (by simp [L2.start, hN]) ?_
  unfold t_lsides
  walk_at "rd"
  refine ⟨p, _, n, rfl, hp, by omega, by decide, by decide, fun r H1 r0 r1 c1 hp1 => ?_⟩
  walk_at "rd"
  obtain ⟨m, hm⟩ : ∃ m : Nat, 2 + r = (m : Int) := ⟨(2 + r).toNat, by omega⟩
  rw [hm]
  refine ⟨p, m, n + 1, rfl, hp1, by omega, by omega, by omega, fun l cs H2 hl csl csr csb c2 hp2 e2 => ?_⟩
  walk_at "rd"
  refine w_goL (SqL.of e2) ?_
  refine w_lcLT (fun i => less cs (cs.getD i 0)) (SqL.of e2) (fun _ => rfl) (by rw [List.length_map]; omega) (fun i x H3 Q' hx c3 k' => ?_) (fun pl H3 hpl c3 lt3 => ?_)
  · obtain ⟨hi, rfl⟩ := int_at hx
    have e3 := c3.lst e2
    dsimp only [wipe, List.set_cons_zero, List.set_cons_succ]
    walk_at "rd"
    refine w_goL (SqL.of e3) ?_
    refine w_lcLF (fun x => !decide (x = cs.getD i 0)) (SqL.of e3) (fun _ => rfl) (by omega) (fun j H4 QB hj c4 q => ?_) (fun z H4 Q'' q => ?_) (fun tl H4 htl c4 e4 => ?_)
    · dsimp only [wipe, List.set_cons_zero, List.set_cons_succ]
      walk_at "rd"
      exact q
    · dsimp only [wipe, List.set_cons_zero, List.set_cons_succ]
      walk_at "rd"
      exact q
    · walk_at "rd"
      exact w_tupOf (SqL.of e4) fun u H5 c5 e5 => k' u H5 (c4.trans c5) e5
  · rw [List.length_map, map_getD cs (less cs)] at lt3
    walk_at "rd"
    refine w_lenLT lt3 ?_
    walk_at "rd"
    obtain ⟨bs, e3, ht3, hbs⟩ := lt3
    have hbl : bs.length = m := by rw [← List.length_map (as := bs) (f := (·.2)), hbs, List.length_map, csl]
    refine ⟨p, pl, _, m, n + 5, by rw [List.length_map, csl]; rfl, hp2.keep c3, by omega, SqL.of e3, by rw [List.length_map]; omega, by rw [List.length_map]; omega, fun f ys zs H4 hf pm hys c4 hp4 e4 => ?_⟩
    have hz : zs = [] := by
      have := pm.length_eq
      rw [List.length_append, List.length_map] at this
      exact List.eq_nil_of_length_eq_zero (by omega)
    subst hz
    rw [List.append_nil] at pm
    obtain ⟨bs', p', rfl⟩ := perm_refs pm bs rfl
    have lt4 : LT K H4 f (bs'.map (·.2)) := ⟨bs', e4, fun b hb => c4.sqt (ht3 b (p'.mem_iff.mp hb)), rfl⟩
    have pm2 : (bs'.map (·.2)).Perm (cs.map (less cs)) := by rw [← hbs]; exact p'.map _
    walk_at "rd"
    refine w_shape lt4 fun t H5 c5 s5 => ?_
    refine kk t _ H5 (by rw [pm2.length_eq, List.length_map]; omega) (by rw [pm2.length_eq, List.length_map]; omega) (fun g hg => ?_) ((c1.trans c2).trans ((c3.wide.trans c4).trans c5.wide)) ((hp4.keep c5).le (by omega)) s5
    obtain ⟨c, hc, rfl⟩ := List.mem_map.mp (pm2.mem_iff.mp hg)
    have := less_len (rise_nodup csr) hc
    exact ⟨by omega, csr.sublist List.filter_sublist⟩
/-! ### pieces laid till none can come -/
theorem w_reprL {K : PySem.W.Frag} {H : Hp} {Q : VK} {l : Addr} {ns : List Int} (h : SqL K H l (ns.map V.int)) (hl : ns.length ≤ 1000) (hb : ∀ x ∈ ns, x.natAbs < 10 ^ 70) (q : Q (.str (PyData.list (ns.map PyData.int)).shown) H) : rReprD K [.ref l] H Q := by
  refine ⟨l, _, 70, rfl, dp_lst h, Nat.le_trans (encL_depth ns) (by decide), by decide, ints_small hb, ?_, q⟩
  have := ints_cost 70 ns
  show costAll 70 _ + 4 ≤ sizeLine
  rw [sizeLine_eq]
  omega
theorem w_dnewT {H : Hp} {Q : VK} {σ : L2.St} (q : ∀ p H', H p = none → Ch [] H H' → H' p = some (.dT []) → Q (.ref p) H') : tDNewT σ H Q := fun p hp => q p _ hp (.new hp) upd_same
theorem w_lenT' {H : Hp} {Q : VK} {p : Addr} {kvs : List (List Key × V)} (h : H p = some (.dT kvs)) (q : Q (.int ((kvs.length : Nat) : Int)) H) : rLenT [.ref p] H Q := ⟨p, kvs, rfl, h, q⟩
/-- a dict is changed -/
theorem Ch.putD {H : Hp} {p : Addr} {kvs : List (List Key × V)} {o : HO} (h : H p = some (.dT kvs)) : Ch [p] H (upd H p o) := by
  refine ⟨fun b u n e => ?_, fun b xs e => ?_, fun b o u e => ?_⟩
  · rw [upd_ne (by simpa using n)]
    exact e
  · rw [upd_ne (ne_of e h (by intro z; cases z))]
    exact e
  · rw [upd_ne (ne_of e h (by intro z; cases z))]
    exact e
theorem w_setD {H : Hp} {Qh : Hp → Prop} {p b : Addr} {ks : List (List Int)} {f : List Int} (h : H p = some (.dT (keysD ks))) (hb : H b = some (.tup (f.map V.int))) (hz : ks.length < 1000000)
    (q : ∀ H', Ch [p] H H' → H' p = some (.dT (putK (keysD ks) (f.map Sum.inl) (.bl true))) → Qh H') : rSetD (.ref p) (.ref b) (.bl true) H Qh :=
  ⟨p, _, rfl, DPut.t h (by rw [key_V]; exact hb) (by unfold keysD; rw [List.length_map, sizeLine_eq]; omega), q _ (.putD h) upd_same⟩
def sp_lwalked (K : PySem.W.Frag) : Sp := fun vs H Q _ => ∃ (p t : Addr) (ps : List (List Int)) (n : Nat), vs = [.ref p, .ref t] ∧ Pen K H p n ∧ n < 999900000 ∧ Shp K H t ps ∧ 1 ≤ ps.length ∧ ps.length ≤ 50 ∧ PsR ps ∧ ∀ H', Ch [p] H H' → Pen K H' p (n + 60) → Q (.bl true) H'
def t_lwalked (K : PySem.W.Frag) : TS :=
    (tSeq (tAsg (tLst tNil) (gName 2))
    (tSeq (tAsg (tC (.int 0)) (gName 3))
    (tCut (tFor (iRng1 (tCons (tOp rAdd (tCB (rLenL K) (tCons (tVar 1) tNil)) (tC (.int 1))) tNil)) (gName 4)
    (tSeq (tAsg (tLc (iRng1 (tCons (tCB (rLenL K) (tCons (tVar 1) tNil)) tNil)) (gName 10) (tTest (tOp (rIn K true) (tVar 10) (tVar 2))) (tVar 10) [10]) (gName 5))
    (tSeq (tIfS (tNot (tB (tCB (rAll K) (tCons (tLc (iList K (tVar 5)) (gName 10) tYes (tCall (sp_lright K) [] E0 (tCons (tVar 1) (tCons (tVar 2) (tCons (tVar 10) tNil)))) [10]) tNil)))) (tRet (tC (.bl false))) tNext)
    (tSeq (tAsg (tLc (iList K (tVar 5)) (gName 10) (tB (tCall (sp_fits K) [] E0 (tCons (tVar 1) (tCons (tCB (rListOf K) (tCons (tVar 2) tNil)) (tCons (tVar 10) tNil))))) (tVar 10) [10]) (gName 6))
    (tSeq (tAsg (tCB (rListOf K) (tCons (tVar 2) tNil)) (gName 7))
    (tSeq (tFor (iRng1 (tCons (tC (.int 2)) tNil)) (gName 8)
    (tSeq (tAsg (tCall (sp_nexts K) [] E0 (tCons (tVar 1) (tCons (tVar 7) tNil))) (gName 9))
    (tSeq (tIfS (tOr (tTest (tOp rNe (tCB (rReprD K) (tCons (tVar 9) tNil)) (tCB (rReprD K) (tCons (tVar 6) tNil)))) (tTest (tOp (rNeD K) (tVar 7) (tVar 2)))) (tRet (tC (.bl false))) tNext)
    (tDrop (tBM K "list" rAppend (tVar 9) (tCons (tC (.int 0)) tNil))))))
    (tSeq (tIfS (tTest (tOp (rEqD K) (tVar 6) (tLst tNil))) tBreak tNext)
    (tSeq (tAsg (tOp (rIxL K) (tVar 6) (tCall (sp_ldraw K) [] E0 (tCons (tVar 0) (tCons (tCB (rLenL K) (tCons (tVar 6) tNil)) tNil)))) (gName 10))
    (tSeq (tAsg (tOp rAdd (tVar 3) (tCB (rLenL K) (tCons (tCall (sp_lfresh K) [] E0 (tCons (tVar 1) (tCons (tVar 2) (tCons (tVar 10) tNil)))) tNil))) (gName 3))
    (tDrop (tBM K "list" rAppend (tVar 2) (tCons (tVar 10) tNil))))))))))))
    (tSeq (tAsg tDNewT (gName 11))
    (tSeq (tFor (iList K (tVar 2)) (gName 10)
    (tFor (iList K (tCall (sp_lfaces K) [] E0 (tCons (tOp (rIxT K) (tVar 1) (tVar 10)) tNil))) (gName 12)
    (tAsg (tC (.bl true)) (gSub (tVar 11) (tVar 12) rSetD))))
    (tRet (tOp rEq (tVar 3) (tCB rLenT (tCons (tVar 11) tNil)))))))))

theorem len_lwalked (K : PySem.W.Frag) : ∀ vs H Q E, sp_lwalked K vs H Q E → vs.length = 2 := by
  rintro vs H Q E ⟨p, n, _, _, rfl, _⟩
  rfl
theorem next_eq {m : Nat} {ps : List (List Int)} {laid : List Int} : (upto m).filter (canB ps laid) = ((upto m).filter fun x => !decide (x ∈ laid)).filter fun x => dueB ps laid x.toNat := by
  rw [List.filter_filter]
  refine List.filter_congr fun x _ => ?_
  unfold canB
  rw [Bool.and_comm]
theorem rd_lwalked {K : PySem.W.Frag} {H : Hp} {vs : List V} {Q : VK} {E : XK} {N : List Str} (h : sp_lwalked K vs H Q E) (hN : N.length = 13 := by rfl) : t_lwalked K { nx := fun _ H' => Q .non H', rt := Q } (start N vs) H := by
  obtain ⟨p, t, ps, n, rfl, pen, nb, hs, p0, p1, pok, kk⟩ := h
  have hps : ∀ f ∈ ps, f.length ≤ 6 ∧ f.Nodup := fun f hf => ⟨(pok f hf).1, rise_nodup (pok f hf).2⟩
  refine w_start (σ := [some (.ref p), some (.ref t), none, none, none, none, none, none, none, none, none, none, none]) (by simp [L2.start, hN]) ?_
  unfold t_lwalked
  obtain ⟨xs, hx, hxl⟩ := hs.len
  walk_at "rd"
  refine w_newA (by show 0 ≤ sizeLine; decide) fun la H1 hla c1 e1 => ?_
  have npl : p ≠ la := pen.ne hla
  have hx1 := c1.sqt hx
  walk_at "rd"
  refine w_cut (fun σ' H' => ∃ (laid : List Int) (o4 o5 o6 o7 o8 o9 oa ob oc : Option V), Ch [p] H H' ∧ Pen K H' p (n + 60) ∧ laid.length ≤ 60 ∧ (∀ o ∈ laid, 0 ≤ o ∧ o < (ps.length : Int)) ∧ H' la = some (.lst (laid.map V.int)) ∧
    σ' = [some (.ref p), some (.ref t), some (.ref la), some (.int (cnt ps laid)), o4, o5, o6, o7, o8, o9, oa, ob, oc]) ?_ ?_
  · walk_at "rd"
    refine w_rngN (n := ps.length + 1) (by omega) (by omega) ?_
    refine w_forR (fun i σ' H' => ∃ (laid : List Int) (o4 o5 o6 o7 o8 o9 oa ob oc : Option V), Ch [p] H H' ∧ Pen K H' p (n + i) ∧ laid.length ≤ i ∧ (∀ o ∈ laid, 0 ≤ o ∧ o < (ps.length : Int)) ∧ H' la = some (.lst (laid.map V.int)) ∧
      σ' = [some (.ref p), some (.ref t), some (.ref la), some (.int (cnt ps laid)), o4, o5, o6, o7, o8, o9, oa, ob, oc]) ⟨[], _, _, _, _, _, _, _, _, _, c1.wide, pen.keep c1, Nat.zero_le _, (fun _ h => nomatch h), e1, rfl⟩ ?_ ?_
    · rintro i σ' H2 hi ⟨laid, o4, o5, o6, o7, o8, o9, oa, ob, oc, c2, pen2, ll, lo, e2, rfl⟩
      dsimp only [List.set_cons_zero, List.set_cons_succ]
      have hs2 := hs.keep c2
      have hx2 := c2.sqt hx
      have ask : ∀ {H' : Hp} {l : Addr} {k : Nat}, Ch [] H2 H' → H' l = some (.lst (laid.map V.int)) → k < ps.length → Asks K H' t l ps laid k := fun c e hk => ⟨hs2.keep c, SqL.of e, by omega, hk, lo, hps⟩
      walk_at "rd"
      refine w_rngN (n := ps.length) (by omega) (by omega) ?_
      refine w_lcRF (fun x => !decide (x ∈ laid)) (fun _ => rfl) (by omega) (fun j H3 QB hj c3 q => ?_) (fun z H3 Q' q => ?_) (fun ol H3 hol c3 e3 => ?_)
      · dsimp only [wipe, List.set_cons_zero, List.set_cons_succ]
        walk_at "rd"
        refine w_ninL (SqL.of (c3.lst e2)) ?_
        walk_at "rd"
        exact q
      · dsimp only [wipe, List.set_cons_zero, List.set_cons_succ]
        walk_at "rd"
        exact q
      have onx : ∀ x ∈ (upto ps.length).filter (fun x => !decide (x ∈ laid)), 0 ≤ x ∧ x < (ps.length : Int) := fun x hx => upto_mem (List.mem_filter.mp hx).1
      have oln : ((upto ps.length).filter fun x => !decide (x ∈ laid)).length ≤ 60 := Nat.le_trans (List.length_filter_le _ _) (by rw [upto_len]; omega)
      have nxt := next_eq (m := ps.length) (ps := ps) (laid := laid)
      generalize (upto ps.length).filter (fun x => !decide (x ∈ laid)) = os at e3 onx oln nxt
      have osd : ∀ (j : Nat), j < os.length → os.getD j 0 = (((os.getD j 0).toNat : Nat) : Int) ∧ (os.getD j 0).toNat < ps.length := fun j hj => by
        have := onx (os.getD j 0) (by rw [List.getD_eq_getElem?_getD, List.getElem?_eq_getElem hj]; exact List.getElem_mem _)
        omega
      walk_at "rd"
      refine w_goL (SqL.of e3) ?_
      refine w_lcLV (fun _ => .bl true) (SqL.of e3) (fun _ => rfl) (by rw [List.length_map]; omega) (fun j y H4 Q' hy c4 k' => ?_) (fun bl H4 hbl c4 e4 => ?_)
      · obtain ⟨hj, rfl⟩ := int_at hy
        have hd := osd j hj
        dsimp only [wipe, List.set_cons_zero, List.set_cons_succ]
        walk_at "rd"
        rw [hd.1]
        exact ⟨t, la, ps, laid, _, rfl, ask (c3.trans c4) (c4.lst (c3.lst e2)) hd.2, fun H5 c5 => k' H5 c5⟩
      rw [show (List.range (os.map V.int).length).map (fun _ => V.bl true) = ((List.range (os.map V.int).length).map fun _ => true).map V.bl by rw [List.map_map]; rfl] at e4
      walk_at "rd"
      refine w_all (SqL.of e4) ?_
      rw [show (((List.range (os.map V.int).length).map fun _ => true).all id) = true by rw [List.all_map, List.all_eq_true]; intro _ _; rfl]
      have e34 := c4.lst e3
      have e24 := c4.lst (c3.lst e2)
      have c24 := c3.trans c4
      walk_at "rd"
      refine w_goL (SqL.of e34) ?_
      refine w_lcLF2 (fun x => dueB ps laid x.toNat) (SqL.of e34) (fun _ => rfl) (by omega) (fun j H5 QB hj c5 q => ?_) (fun z H5 Q' q => ?_) (fun dl H5 hdl c5 e5 => ?_)
      · have hd := osd j hj
        dsimp only [wipe, List.set_cons_zero, List.set_cons_succ]
        walk_at "rd"
        refine w_listL (SqL.of (c5.lst e24)) fun l6 H6 hl6 c6 e6 => ?_
        walk_at "rd"
        rw [hd.1]
        refine ⟨t, l6, ps, laid, _, rfl, ask ((c24.trans c5).trans c6) e6 hd.2, fun H7 c7 => ?_⟩
        walk_at "rd"
        exact q H7 (c6.trans c7)
      · dsimp only [wipe, List.set_cons_zero, List.set_cons_succ]
        walk_at "rd"
        exact q
      rw [← nxt] at e5
      have dx : ∀ x ∈ (upto ps.length).filter (canB ps laid), 0 ≤ x ∧ x < (ps.length : Int) := fun x hx => upto_mem (List.mem_filter.mp hx).1
      have dln : ((upto ps.length).filter (canB ps laid)).length ≤ 60 := Nat.le_trans (List.length_filter_le _ _) (by rw [upto_len]; omega)
      have dsm : ∀ x ∈ (upto ps.length).filter (canB ps laid), x.natAbs < 10 ^ 70 := fun x hx => by
        have := dx x hx
        exact Nat.lt_of_lt_of_le (show x.natAbs < 60 by omega) (by decide +kernel)
      have c25 := c24.trans c5
      walk_at "rd"
      refine w_listL (SqL.of (c5.lst e24)) fun ha H6 hha c6 e6 => ?_
      have c26 := c25.trans c6
      have e56 := c6.lst e5
      have e26 := c26.lst e2
      walk_at "rd"
      refine w_rngN (n := 2) rfl (by omega) ?_
      refine w_forR (fun j σ' H' => Ch [] H6 H' ∧ ∃ o8 o9, σ' = [some (.ref p), some (.ref t), some (.ref la), some (.int (cnt ps laid)), some (.int i), some (.ref ol), some (.ref dl), some (.ref ha), o8, o9, oa, ob, oc]) ⟨.refl, _, _, rfl⟩ ?_ ?_
      · rintro j σ' H7 hj ⟨c7, o8, o9, rfl⟩
        dsimp only [List.set_cons_zero, List.set_cons_succ]
        walk_at "rd"
        refine ⟨t, ha, ps, laid, rfl, ⟨(hs2.keep c26).keep c7, SqL.of (c7.lst e6), by omega, by omega, lo, hps⟩, fun cl H8 hcl c8 e8 => ?_⟩
        walk_at "rd"
        refine w_reprL (SqL.of e8) (by omega) dsm ?_
        walk_at "rd"
        refine w_reprL (SqL.of (c8.lst (c7.lst e56))) (by omega) dsm ?_
        refine w_neS ?_
        walk_at "rd"
        refine w_itn (fun hz => absurd rfl hz) (fun _ => ?_)
        walk_at "rd"
        refine w_neL (SqL.of (c8.lst (c7.lst e6))) (SqL.of (c8.lst (c7.lst e26))) ?_
        walk_at "rd"
        refine w_itn (fun hz => absurd rfl hz) (fun _ => ?_)
        walk_at "rd"
        refine w_app e8 (by rw [sizeLine_eq, List.length_map]; omega) fun H9 c9 e9 => ?_
        exact ⟨Ch.old (c7.trans c8) (c7.free hcl) c9, _, _, rfl⟩
      · rintro σ' H7 ⟨c7, o8, o9, rfl⟩
        have c27 := c26.trans c7
        have e57 := c7.lst e56
        have e27 := c7.lst e26
        walk_at "rd"
        refine w_newA (by show 0 ≤ sizeLine; decide) fun nl H8 hnl c8 e8 => ?_
        refine w_eqL (SqL.of (c8.lst e57)) (ms := []) (SqL.of e8) ?_
        have c28 := c27.trans c8
        walk_at "rd"
        refine w_ite (fun he => ?_) (fun he => ?_)
        · exact ⟨laid, _, _, _, _, _, _, _, _, _, c2.trans c28.wide, (pen2.keep c28).le (by omega), by omega, lo, c8.lst e27, rfl⟩
        · have d0 : 0 < ((upto ps.length).filter (canB ps laid)).length := List.length_pos_iff.mpr he
          generalize (upto ps.length).filter (canB ps laid) = du at e57 dx dln dsm d0
          have e58 := c8.lst e57
          walk_at "rd"
          refine ⟨p, _, _, rfl, pen2.keep c28, by omega, by rw [List.length_map]; omega, by rw [List.length_map]; omega, fun r H9 r0 r1 c9 pen9 => ?_⟩
          rw [List.length_map] at r1
          have ndp : dl ≠ p := Ne.symm ((pen2.keep c24).ne hdl)
          have e59 := c9.but e58 ndp
          refine w_ixLI (SqL.of e59) r0 (by omega) ?_
          have hk := dx (du.getD r.toNat 0) (by rw [List.getD_eq_getElem?_getD, List.getElem?_eq_getElem (by omega)]; exact List.getElem_mem _)
          generalize du.getD r.toNat 0 = k at hk
          obtain ⟨k', rfl⟩ : ∃ k' : Nat, k = (k' : Int) := ⟨k.toNat, by omega⟩
          have e29 := c9.but (c28.lst e2) npl.symm
          walk_at "rd"
          refine ⟨t, la, ps, laid, k', rfl, ⟨(hs2.keep c28).keep c9, SqL.of e29, by omega, by omega, lo, hps⟩, fun fl Ha hfl ca lta => ?_⟩
          walk_at "rd"
          refine w_lenLT lta ?_
          walk_at "rd"
          have e2a := ca.lst e29
          walk_at "rd"
          refine w_app e2a (by rw [sizeLine_eq, List.length_map]; omega) fun Hb cb eb => ?_
          have ec : ((cnt ps laid : Nat) : Int) + ((freshL ps laid (ps.getD k' [])).length : Int) = ((cnt ps (laid ++ [(k' : Int)]) : Nat) : Int) := by
            rw [cnt_snoc]
            rfl
          rw [ec]
          refine ⟨laid ++ [(k' : Int)], _, _, _, _, _, _, _, _, _, Ch.old (((c2.trans c28.wide).trans c9).trans ca.wide) hla cb, ((pen9.keep ca).but cb npl).le (by omega), by rw [List.length_append, List.length_singleton]; omega, fun o ho => ?_, by rw [eb, List.map_append]; rfl, rfl⟩
          · rcases List.mem_append.mp ho with h | h
            · exact lo o h
            · rw [List.mem_singleton.mp h]
              omega
    · rintro σ' H2 ⟨laid, o4, o5, o6, o7, o8, o9, oa, ob, oc, c2, pen2, ll, lo, e2, rfl⟩
      exact ⟨laid, _, _, _, _, _, _, _, _, _, c2, pen2.le (by omega), by omega, lo, e2, rfl⟩
  · rintro σ' H2 ⟨laid, o4, o5, o6, o7, o8, o9, oa, ob, oc, c2, pen2, ll, lo, e2, rfl⟩
    have hs2 := hs.keep c2
    have hr : ∀ o ∈ laid, (pc ps o).Pairwise (· < ·) := fun o ho => (pok _ (pc_mem (lo o ho))).2
    walk_at "rd"
    refine w_dnewT fun d H3 hd c3 e3 => ?_
    have nld : la ≠ d := ne_new e2 hd
    have npd : p ≠ d := pen2.ne hd
    have e23 := c3.lst e2
    walk_at "rd"
    refine w_goL (SqL.of e23) ?_
    refine w_forL (xs := laid.map V.int) (fun i σ' H' => ∃ (ks : List (List Int)) (oa oc : Option V), Ch [d] H3 H' ∧ AllF ps (laid.take i) ks ∧ ks.length ≤ 64 * i ∧ H' d = some (.dT (keysD ks)) ∧ σ' = [some (.ref p), some (.ref t), some (.ref la), some (.int (cnt ps laid)), o4, o5, o6, o7, o8, o9, oa, some (.ref d), oc])
      ⟨[], _, _, .refl, ⟨List.nodup_nil, by simp, rfl⟩, Nat.le_refl _, e3, rfl⟩ (fun i σ' H' _ m => by
        obtain ⟨ks, _, _, c, _⟩ := m
        exact SqL.of (c.but e23 nld)) ?_ ?_
    · rintro i x σ' H4 hx ⟨ks, oa, oc, c4, af, kl, e4, rfl⟩
      obtain ⟨hi, rfl⟩ := int_at hx
      have hg : laid[i]? = some (laid.getD i 0) := by rw [List.getD_eq_getElem?_getD, List.getElem?_eq_getElem hi]; rfl
      have hol := lo (laid.getD i 0) (List.mem_of_getElem? hg)
      have hpi := pc_mem hol
      have hP := pok _ hpi
      have af' := allF_next (k := laid.getD i 0) af (fun o ho => hr o (List.mem_of_mem_take ho)) hP.2
      rw [show laid.take i ++ [laid.getD i 0] = laid.take (i + 1) by rw [List.take_add_one, hg]; rfl] at af'
      have nS := subs_nodup (P := pc ps (laid.getD i 0)) (rise_nodup hP.2) _ (Nat.le_refl _)
      have ln1 : (subs (pc ps (laid.getD i 0)) (pc ps (laid.getD i 0)).length).length ≤ 64 := by
        rw [subs_len]
        exact Nat.le_trans (Nat.pow_le_pow_right (by decide) hP.1) (by decide)
      have hpc : ps.getD (laid.getD i 0).toNat [] = pc ps (laid.getD i 0) := rfl
      walk_at "rd"
      refine w_ixShp (k := (laid.getD i 0).toNat) ((hs2.keep c3).keep c4) (by omega) (by omega) fun u hu => ?_
      rw [hpc] at hu
      generalize hPP : pc ps (laid.getD i 0) = P at hu af' nS ln1 hP
      walk_at "rd"
      refine ⟨u, P, rfl, hu, by omega, fun fl H5 hfl c5 lt5 => ?_⟩
      have e45 := c5.lst e4
      have nfd : fl ≠ d := fun z => by
        subst z
        rw [e4] at hfl
        cases hfl
      obtain ⟨ds, ed, hdd, hds⟩ := lt5
      refine w_goL (SqL.of ed) ?_
      refine w_forL (xs := ds.map fun b => V.ref b.1) (fun j σ' H' => ∃ (oc : Option V), Ch [d] H5 H' ∧ H' d = some (.dT (keysD (grown ks ((subs P P.length).take j)))) ∧ σ' = [some (.ref p), some (.ref t), some (.ref la), some (.int (cnt ps laid)), o4, o5, o6, o7, o8, o9, some (.int (laid.getD i 0)), some (.ref d), oc])
        ⟨_, .refl, by simpa [grown] using e45, rfl⟩ (fun j σ' H' _ m => by
          obtain ⟨_, c, _⟩ := m
          exact SqL.of (c.but ed nfd)) ?_ ?_
      · rintro j x σ' H6 hx ⟨oc, c6, e6, rfl⟩
        rw [List.getElem?_map] at hx
        obtain ⟨b, hb, rfl⟩ := Option.map_eq_some_iff.mp hx
        have hm := List.mem_of_getElem? hb
        have hsj : (subs P P.length)[j]? = some b.2 := by rw [← hds, List.getElem?_map, hb]; rfl
        have hb6 := c6.tup _ _ (hdd b hm)
        walk_at "rd"
        refine w_setD e6 hb6 ?_ fun H7 c7 e7 => ?_
        · unfold grown
          have h1 := List.length_filter_le (fun f => !decide (f ∈ ks)) ((subs P P.length).take j)
          rw [List.length_take] at h1
          rw [List.length_append]
          omega
        · rw [grown_put nS hsj] at e7
          exact ⟨_, c6.trans c7, e7, rfl⟩
      · rintro σ' H6 ⟨oc, c6, e6, rfl⟩
        rw [List.length_map, ← List.length_map (as := ds) (f := (·.2)), hds, List.take_length] at e6
        refine ⟨_, _, _, c4.trans (c5.wide.trans c6), af', ?_, e6, rfl⟩
        unfold grown
        have h1 := List.length_filter_le (fun f => !decide (f ∈ ks)) (subs P P.length)
        rw [List.length_append]
        omega
    · rintro σ' H4 ⟨ks, oa, oc, c4, af, kl, e4, rfl⟩
      rw [List.length_map, List.take_length] at af
      walk_at "rd"
      refine w_lenT' e4 ?_
      have hl : (keysD ks).length = cnt ps laid := by
        unfold keysD
        rw [List.length_map]
        exact af.2.2
      rw [hl]
      walk_at "rd"
      rw [decide_eq_true rfl]
      exact kk H4 (Ch.old (c2.trans c3.wide) (free_pen c2 pen2 hd) c4) ((pen2.keep c3).but c4 npd)

def sp_law (K : PySem.W.Frag) : Sp := fun vs H Q _ => ∃ (a : Addr) (ns : List Int), vs = [.ref a] ∧ Fz K H a (ns.map V.int) ∧ ∀ H', Q (.bl true) H'
def t_law (K : PySem.W.Frag) : TS :=
    (tSeq (tAsg (tCall (sp_lpen K) [] E0 (tCons (tVar 0) tNil)) (gName 1))
    (tSeq (tFor (iRng1 (tCons (tC (.int 3)) tNil)) (gName 2)
    (tIfS (tNot (tB (tCall (sp_lwalked K) [] E0 (tCons (tVar 1) (tCons (tCall (sp_lshape K) [] E0 (tCons (tVar 1) (tCons (tC (.int 8)) tNil))) tNil))))) (tRet (tC (.bl false))) tNext))
    (tRet (tCall (sp_lwalked K) [] E0 (tCons (tVar 1) (tCons (tCall (sp_lsides K) [] E0 (tCons (tVar 1) tNil)) tNil))))))

theorem len_law (K : PySem.W.Frag) : ∀ vs H Q E, sp_law K vs H Q E → vs.length = 1 := by
  rintro vs H Q E ⟨a, ns, rfl, _⟩
  rfl
theorem rd_law {K : PySem.W.Frag} {H : Hp} {vs : List V} {Q : VK} {E : XK} {N : List Str} (h : sp_law K vs H Q E) (hN : N.length = 3 := by rfl) : t_law K { nx := fun _ H' => Q .non H', rt := Q } (start N vs) H := by
  obtain ⟨a, ns, rfl, hs, kk⟩ := h
  refine w_start (σ := [some (.ref a), none, none]) (by simp [L2.start, hN]) ?_
  unfold t_law
  walk_at "rd"
  refine ⟨a, ns, rfl, hs, fun p H1 hp c1 pen1 => ?_⟩
  walk_at "rd"
  refine w_rngN (n := 3) rfl (by omega) ?_
  refine w_forR (fun i σ' H' => Pen K H' p (2000 * i) ∧ ∃ o2, σ' = [some (.ref a), some (.ref p), o2]) ⟨pen1, _, rfl⟩ ?_ ?_
  · rintro i σ' H2 hi ⟨pen2, o2, rfl⟩
    dsimp only [List.set_cons_zero, List.set_cons_succ]
    walk_at "rd"
    refine ⟨p, 8, _, rfl, pen2, by omega, by decide, by decide, fun t ps nn H5 n0 n1 p0 p1 pok c5 pen5 s5 => ?_⟩
    walk_at "rd"
    refine ⟨p, t, ps, _, rfl, pen5, by omega, s5, p0, by omega, fun f hf => ⟨by have := (pok f hf).1; omega, (pok f hf).2.1⟩, fun H6 c6 pen6 => ?_⟩
    walk_at "rd"
    exact ⟨pen6.le (by omega), _, rfl⟩
  · rintro σ' H2 ⟨pen2, o2, rfl⟩
    walk_at "rd"
    refine ⟨p, _, rfl, pen2, by omega, fun t ps H3 p0 p1 hps c3 pen3 s3 => ?_⟩
    walk_at "rd"
    exact ⟨p, t, ps, _, rfl, pen3, by omega, s3, p0, p1, hps, fun H4 c4 pen4 => kk H4⟩
theorem fz_of {K : PySem.W.Frag} {H : Hp} {a : Addr} {ns : List Int} (h : SqL K H a (ns.map V.int)) (hH : ∀ b u, H b = some u → b = a ∧ ∃ o v, u = .frz o v) : Fz K H a (ns.map V.int) := by
  rcases h with (h | ⟨o, h⟩) | h
  · obtain ⟨_, o, v, z⟩ := hH a _ h
    cases z
  · exact .inl ⟨o, h⟩
  · exact .inr fun _ => .inr h
/-! ## the text by places -/
def topS (i : Nat) : Stmt := PySem.Challenge.pw_wholesides_k12_whole_all_faces_of_what_c.main.body.getD i (.Pass ⟨0, 0, 0, 0⟩)
structure Tx (mg : Str → Option Value) : Prop where
  b_all : mg "all" = none
  b_tuple : mg "tuple" = none
  b_set : mg "set" = none
  b_sorted : mg "sorted" = none
  b_any : mg "any" = none
  b_len : mg "len" = none
  b_range : mg "range" = none
  b_abs : mg "abs" = none
  b_list : mg "list" = none
  b_int : mg "int" = none
  b_max : mg "max" = none
  b_repr : mg "repr" = none
section
variable {P : Program} {w : World} {K : PySem.W.Frag} {mg : Str → Option Value} {base : Heap}
abbrev s_lies_in : Stmt := topS 1
abbrev N_lies_in : List Str := ["face", "other", "corner"]
theorem sc_lies_in : FnScope N_lies_in ["face", "other"] (defScope s_lies_in) := ⟨rfl, rfl, rfl, by decide +kernel, rfl, by decide +kernel, by decide +kernel⟩
theorem ok_lies_in {f : Addr} {fd : FuncData} (F : Fun K "lies_in" "lies_in" s_lies_in f fd) (T : Tx mg) : FnOk P w K mg base CX0 1 f fd ["face", "other"] (sp_lies_in K) := by
  have sc := sc_lies_in
  refine F.ok sc (len_lies_in K) (fun cdv A outer s H vs Q E hr h => ⟨t_lies_in K, ?_, rd_lies_in h⟩)
  exact (pss_one (ps_ret (pe_callB (cr_all rfl) (by rfl) T.b_all (by decide +kernel) (pa_cons (pe_lc (own := [("corner", 2)]) (by rfl) sc.nd (pi_tup (pv 0)) (blkOk_by (own := [("corner", 2)]) (N := N_lies_in) (sc := defScope s_lies_in) (by decide +kernel)) (fun _ _ _ _ _ => (pg_name (i := 2) sc.nd rfl (by first | exact .inl rfl | exact .inr rfl))) (fun _ _ _ _ _ => pts_nil) (fun _ _ _ _ _ => (pe_cmpR op_in_seq (pv 2) (pv 1) (by rfl)))) pa_nil))))

abbrev s_without : Stmt := topS 2
abbrev N_without : List Str := ["face", "corner", "one"]
theorem sc_without : FnScope N_without ["face", "corner"] (defScope s_without) := ⟨rfl, rfl, rfl, by decide +kernel, rfl, by decide +kernel, by decide +kernel⟩
theorem ok_without {f : Addr} {fd : FuncData} (F : Fun K "without" "without" s_without f fd) (T : Tx mg) : FnOk P w K mg base CX0 1 f fd ["face", "corner"] (sp_without K) := by
  have sc := sc_without
  refine F.ok sc (len_without K) (fun cdv A outer s H vs Q E hr h => ⟨t_without K, ?_, rd_without h⟩)
  exact (pss_one (ps_ret (pe_callTy cr_tuple (by rfl) T.b_tuple (by decide +kernel) (pa_cons (pe_lc (own := [("one", 2)]) (by rfl) sc.nd (pi_tup (pv 0)) (blkOk_by (own := [("one", 2)]) (N := N_without) (sc := defScope s_without) (by decide +kernel)) (fun _ _ _ _ _ => (pg_name (i := 2) sc.nd rfl (by first | exact .inl rfl | exact .inr rfl))) (fun _ _ _ _ _ => (pts_one (pt_cmpR op_ne (pv 2) (pv 1) (nomark _)))) (fun _ _ _ _ _ => (pv 2))) pa_nil))))

abbrev s_common : Stmt := topS 3
abbrev N_common : List Str := ["face", "other", "corner"]
theorem sc_common : FnScope N_common ["face", "other"] (defScope s_common) := ⟨rfl, rfl, rfl, by decide +kernel, rfl, by decide +kernel, by decide +kernel⟩
theorem ok_common {f : Addr} {fd : FuncData} (F : Fun K "common" "common" s_common f fd) (T : Tx mg) : FnOk P w K mg base CX0 1 f fd ["face", "other"] (sp_common K) := by
  have sc := sc_common
  refine F.ok sc (len_common K) (fun cdv A outer s H vs Q E hr h => ⟨t_common K, ?_, rd_common h⟩)
  exact (pss_one (ps_ret (pe_callTy cr_tuple (by rfl) T.b_tuple (by decide +kernel) (pa_cons (pe_lc (own := [("corner", 2)]) (by rfl) sc.nd (pi_tup (pv 0)) (blkOk_by (own := [("corner", 2)]) (N := N_common) (sc := defScope s_common) (by decide +kernel)) (fun _ _ _ _ _ => (pg_name (i := 2) sc.nd rfl (by first | exact .inl rfl | exact .inr rfl))) (fun _ _ _ _ _ => (pts_one (pt_cmpR op_in_seq (pv 2) (pv 1) (by rfl)))) (fun _ _ _ _ _ => (pv 2))) pa_nil))))

abbrev s_shared : Stmt := topS 5
abbrev N_shared : List Str := ["shape", "laid", "k", "found", "greatest", "face", "other"]
theorem sc_shared : FnScope N_shared ["shape", "laid", "k"] (defScope s_shared) := ⟨rfl, rfl, rfl, by decide +kernel, rfl, by decide +kernel, by decide +kernel⟩
theorem ok_shared {f : Addr} {fd : FuncData} (F : Fun K "shared" "shared" s_shared f fd) (T : Tx mg) (h_common : Has P w K mg base "common" ["face", "other"] 1 (sp_common K)) (h_lies_in : Has P w K mg base "lies_in" ["face", "other"] 1 (sp_lies_in K)) : FnOk P w K mg base CX0 2 f fd ["shape", "laid", "k"] (sp_shared K) := by
  have sc := sc_shared
  refine F.ok sc (len_shared K) (fun cdv A outer s H vs Q E hr h => ⟨t_shared K P w, ?_, rd_shared h⟩)
  exact (pss_cons (ps_set (i := 3) sc.nd rfl (.inl rfl) (pe_callB (cr_sortSetT rfl hr.units) (by rfl) T.b_sorted (by decide +kernel) (pa_cons (pe_callTy (cr_setOfT rfl hr.units) (by rfl) T.b_set (by decide +kernel) (pa_cons (pe_lc (own := [("other", 6)]) (by rfl) sc.nd (pi_list (pv 1)) (blkOk_by (own := [("other", 6)]) (N := N_shared) (sc := defScope s_shared) (by decide +kernel)) (fun _ _ _ _ _ => (pg_name (i := 6) sc.nd rfl (by first | exact .inl rfl | exact .inr rfl))) (fun _ _ _ _ _ => pts_nil) (fun _ _ _ _ _ => (pe_h h_common (hr.mono (by decide)) (by rfl) (pa_cons (pe_ix ix_tup (pv 0) (pv 2) (fun _ _ => rfl)) (pa_cons (pe_ix ix_tup (pv 0) (pv 6) (fun _ _ => rfl)) pa_nil))))) pa_nil)) pa_nil)))
      (pss_cons (ps_set (i := 4) sc.nd rfl (.inl rfl) (pe_lst pa_nil))
      (pss_cons (ps_for PassesOwn.never rfl (pi_list (pv 3)) (pg_name (i := 5) sc.nd rfl (.inr rfl))
      (pss_one (ps_if (pt_not (pt_val (pe_callB (cr_any rfl) (by rfl) T.b_any (by decide +kernel) (pa_cons (pe_lc (own := [("other", 6)]) (by rfl) sc.nd (pi_list (pv 3)) (blkOk_by (own := [("other", 6)]) (N := N_shared) (sc := defScope s_shared) (by decide +kernel)) (fun _ _ _ _ _ => (pg_name (i := 6) sc.nd rfl (by first | exact .inl rfl | exact .inr rfl))) (fun _ _ _ _ _ => pts_nil) (fun _ _ _ _ _ => (pe_and (pe_cmpR (op_neD hr.units) (pv 5) (pv 6) (nomark _)) (pe_one (pe_h h_lies_in (hr.mono (by decide)) (by rfl) (pa_cons (pv 5) (pa_cons (pv 6) pa_nil))))))) pa_nil)))) (pss_one (ps_expr (pe_bm PySem.F.plainAttrs_list PySem.F.slot_list_append PySem.F.type_list_append mt_append (pv 4) (pa_cons (pv 5) pa_nil)))) pss_nil)))
      (pss_one (ps_ret (pv 4))))))

abbrev s_fits : Stmt := topS 6
abbrev N_fits : List Str := ["shape", "laid", "k", "face"]
theorem sc_fits : FnScope N_fits ["shape", "laid", "k"] (defScope s_fits) := ⟨rfl, rfl, rfl, by decide +kernel, rfl, by decide +kernel, by decide +kernel⟩
theorem ok_fits {f : Addr} {fd : FuncData} (F : Fun K "fits" "fits" s_fits f fd) (T : Tx mg) (h_shared : Has P w K mg base "shared" ["shape", "laid", "k"] 2 (sp_shared K)) : FnOk P w K mg base CX0 3 f fd ["shape", "laid", "k"] (sp_fits K) := by
  have sc := sc_fits
  refine F.ok sc (len_fits K) (fun cdv A outer s H vs Q E hr h => ⟨t_fits K, ?_, rd_fits h⟩)
  exact (pss_one (ps_ret (pe_callB (cr_all rfl) (by rfl) T.b_all (by decide +kernel) (pa_cons (pe_lc (own := [("face", 3)]) (by rfl) sc.nd (pi_list (pe_h h_shared (hr.mono (by decide)) (by rfl) (pa_cons (pv 0) (pa_cons (pv 1) (pa_cons (pv 2) pa_nil))))) (blkOk_by (own := [("face", 3)]) (N := N_fits) (sc := defScope s_fits) (by decide +kernel)) (fun _ _ _ _ _ => (pg_name (i := 3) sc.nd rfl (by first | exact .inl rfl | exact .inr rfl))) (fun _ _ _ _ _ => pts_nil) (fun _ _ _ _ _ => (pe_cmpR op_eq (pe_callB cr_len (by rfl) T.b_len (by decide +kernel) (pa_cons (pv 3) pa_nil)) (pe_op o_sub (pe_callB cr_len (by rfl) T.b_len (by decide +kernel) (pa_cons (pe_ix ix_tup (pv 0) (pv 2) (fun _ _ => rfl)) pa_nil)) pe_int) (nomark _)))) pa_nil))))

abbrev s_meets_without : Stmt := topS 7
abbrev N_meets_without : List Str := ["shape", "laid", "k", "corner", "side", "other"]
theorem sc_meets_without : FnScope N_meets_without ["shape", "laid", "k", "corner"] (defScope s_meets_without) := ⟨rfl, rfl, rfl, by decide +kernel, rfl, by decide +kernel, by decide +kernel⟩
theorem ok_meets_without {f : Addr} {fd : FuncData} (F : Fun K "meets_without" "meets_without" s_meets_without f fd) (T : Tx mg) (h_without : Has P w K mg base "without" ["face", "corner"] 1 (sp_without K)) (h_lies_in : Has P w K mg base "lies_in" ["face", "other"] 1 (sp_lies_in K)) : FnOk P w K mg base CX0 2 f fd ["shape", "laid", "k", "corner"] (sp_meets_without K) := by
  have sc := sc_meets_without
  refine F.ok sc (len_meets_without K) (fun cdv A outer s H vs Q E hr h => ⟨t_meets_without K, ?_, rd_meets_without h⟩)
  exact (pss_cons (ps_set (i := 4) sc.nd rfl (.inr rfl) (pe_h h_without (hr.mono (by decide)) (by rfl) (pa_cons (pe_ix ix_tup (pv 0) (pv 2) (fun _ _ => rfl)) (pa_cons (pv 3) pa_nil))))
      (pss_one (ps_ret (pe_callB (cr_any rfl) (by rfl) T.b_any (by decide +kernel) (pa_cons (pe_lc (own := [("other", 5)]) (by rfl) sc.nd (pi_list (pv 1)) (blkOk_by (own := [("other", 5)]) (N := N_meets_without) (sc := defScope s_meets_without) (by decide +kernel)) (fun _ _ _ _ _ => (pg_name (i := 5) sc.nd rfl (by first | exact .inl rfl | exact .inr rfl))) (fun _ _ _ _ _ => pts_nil) (fun _ _ _ _ _ => (pe_h h_lies_in (hr.mono (by decide)) (by rfl) (pa_cons (pv 4) (pa_cons (pe_ix ix_tup (pv 0) (pv 5) (fun _ _ => rfl)) pa_nil))))) pa_nil)))))

abbrev s_brings : Stmt := topS 8
abbrev N_brings : List Str := ["shape", "laid", "k", "corner"]
theorem sc_brings : FnScope N_brings ["shape", "laid", "k"] (defScope s_brings) := ⟨rfl, rfl, rfl, by decide +kernel, rfl, by decide +kernel, by decide +kernel⟩
theorem ok_brings {f : Addr} {fd : FuncData} (F : Fun K "brings" "brings" s_brings f fd) (T : Tx mg) (h_fits : Has P w K mg base "fits" ["shape", "laid", "k"] 3 (sp_fits K)) (h_meets_without : Has P w K mg base "meets_without" ["shape", "laid", "k", "corner"] 2 (sp_meets_without K)) : FnOk P w K mg base CX0 4 f fd ["shape", "laid", "k"] (sp_brings K) := by
  have sc := sc_brings
  refine F.ok sc (len_brings K) (fun cdv A outer s H vs Q E hr h => ⟨t_brings K, ?_, rd_brings h⟩)
  exact (pss_cons (ps_if (pt_not (pt_val (pe_h h_fits (hr.mono (by decide)) (by rfl) (pa_cons (pv 0) (pa_cons (pv 1) (pa_cons (pv 2) pa_nil)))))) (pss_one (ps_ret pe_non)) pss_nil)
      (pss_one (ps_ret (pe_callTy cr_tuple (by rfl) T.b_tuple (by decide +kernel) (pa_cons (pe_lc (own := [("corner", 3)]) (by rfl) sc.nd (pi_tup (pe_ix ix_tup (pv 0) (pv 2) (fun _ _ => rfl))) (blkOk_by (own := [("corner", 3)]) (N := N_brings) (sc := defScope s_brings) (by decide +kernel)) (fun _ _ _ _ _ => (pg_name (i := 3) sc.nd rfl (by first | exact .inl rfl | exact .inr rfl))) (fun _ _ _ _ _ => (pts_one (pt_val (pe_h h_meets_without (hr.mono (by decide)) (by rfl) (pa_cons (pv 0) (pa_cons (pv 1) (pa_cons (pv 2) (pa_cons (pv 3) pa_nil)))))))) (fun _ _ _ _ _ => (pv 3))) pa_nil)))))

abbrev s_nexts : Stmt := topS 9
abbrev N_nexts : List Str := ["shape", "laid", "k"]
theorem sc_nexts : FnScope N_nexts ["shape", "laid"] (defScope s_nexts) := ⟨rfl, rfl, rfl, by decide +kernel, rfl, by decide +kernel, by decide +kernel⟩
theorem ok_nexts {f : Addr} {fd : FuncData} (F : Fun K "nexts" "nexts" s_nexts f fd) (T : Tx mg) (h_fits : Has P w K mg base "fits" ["shape", "laid", "k"] 3 (sp_fits K)) : FnOk P w K mg base CX0 4 f fd ["shape", "laid"] (sp_nexts K) := by
  have sc := sc_nexts
  refine F.ok sc (len_nexts K) (fun cdv A outer s H vs Q E hr h => ⟨t_nexts K, ?_, rd_nexts h⟩)
  exact (pss_one (ps_ret (pe_lc (own := [("k", 2)]) (by rfl) sc.nd (pi_range1 (by rfl) T.b_range (pa_cons (pe_callB cr_len (by rfl) T.b_len (by decide +kernel) (pa_cons (pv 0) pa_nil)) pa_nil)) (blkOk_by (own := [("k", 2)]) (N := N_nexts) (sc := defScope s_nexts) (by decide +kernel)) (fun _ _ _ _ _ => (pg_name (i := 2) sc.nd rfl (by first | exact .inl rfl | exact .inr rfl))) (fun _ _ _ _ _ => (pts_one (PW.pt (pw_and (pt_cmpR op_notIn_seq (pv 2) (pv 1) (by rfl)) (pw_and1 (pt_val (pe_h h_fits (hr.mono (by decide)) (by rfl) (pa_cons (pv 0) (pa_cons (pv 1) (pa_cons (pv 2) pa_nil)))))))))) (fun _ _ _ _ _ => (pv 2)))))

abbrev s_lpen : Stmt := topS 11
abbrev N_lpen : List Str := ["_law_script"]
theorem sc_lpen : FnScope N_lpen ["_law_script"] (defScope s_lpen) := ⟨rfl, rfl, rfl, by decide +kernel, rfl, by decide +kernel, by decide +kernel⟩
theorem ok_lpen {f : Addr} {fd : FuncData} (F : Fun K "_law_pen" "_law_pen" s_lpen f fd) (T : Tx mg) : FnOk P w K mg base CX0 1 f fd ["_law_script"] (sp_lpen K) := by
  have sc := sc_lpen
  refine F.ok sc (len_lpen K) (fun cdv A outer s H vs Q E hr h => ⟨t_lpen K, ?_, rd_lpen h⟩)
  exact (pss_one (ps_ret (pe_lst (pa_cons (pv 0) (pa_cons pe_int (pa_cons pe_int pa_nil))))))

abbrev s_ldraw : Stmt := topS 12
abbrev N_ldraw : List Str := ["_law_pen_here", "_law_many", "_law_script", "_law_at", "_law_over", "_law_cell", "_law_number"]
theorem sc_ldraw : FnScope N_ldraw ["_law_pen_here", "_law_many"] (defScope s_ldraw) := ⟨rfl, rfl, rfl, by decide +kernel, rfl, by decide +kernel, by decide +kernel⟩
theorem ok_ldraw {f : Addr} {fd : FuncData} (F : Fun K "_law_draw" "_law_draw" s_ldraw f fd) (T : Tx mg) : FnOk P w K mg base CX0 1 f fd ["_law_pen_here", "_law_many"] (sp_ldraw K) := by
  have sc := sc_ldraw
  refine F.ok sc (len_ldraw K) (fun cdv A outer s H vs Q E hr h => ⟨t_ldraw K, ?_, rd_ldraw h⟩)
  exact (pss_cons (ps_asg (pv 0) (pg_unl rfl (pgs_cons (pg_name (i := 2) sc.nd rfl (.inl rfl)) (pgs_cons (pg_name (i := 3) sc.nd rfl (.inl rfl)) (pgs_cons (pg_name (i := 4) sc.nd rfl (.inl rfl)) pgs_nil)))))
      (pss_cons (ps_if (pt_cmpR o_gt (pv 4) pe_int (nomark _)) (pss_cons (ps_asg (pe_op o_div (pv 4) (pv 1)) (pg_sub (pv 0) pe_int set_list))
      (pss_one (ps_ret (pe_op o_mod (pv 4) (pv 1))))) pss_nil)
      (pss_cons (ps_asg (pe_op o_add (pv 3) pe_int) (pg_sub (pv 0) pe_int set_list))
      (pss_cons (ps_set (i := 5) sc.nd rfl (.inl rfl) (pe_op o_add (pe_op o_add (pe_op o_mul (pe_op o_mul pe_int (pv 3)) (pv 3)) (pe_op o_mul pe_int (pv 3))) pe_int))
      (pss_cut (ps_if (pt_cmpR o_gt (pe_callB cr_len (by rfl) T.b_len (by decide +kernel) (pa_cons (pv 2) pa_nil)) pe_int (nomark _)) (pss_one (ps_set (i := 5) sc.nd rfl (.inl rfl) (pe_ix ix_list (pv 2) (pe_op o_mod (pv 3) (pe_callB cr_len (by rfl) T.b_len (by decide +kernel) (pa_cons (pv 2) pa_nil))) (fun _ _ => rfl)))) pss_nil)
      (pss_cons (ps_if (PW.pt (pw_and (pt_cmpR o_lt (pv 3) (pe_callB cr_len (by rfl) T.b_len (by decide +kernel) (pa_cons (pv 2) pa_nil)) (nomark _)) (pw_and1 (pt_cmpR o_ge (pe_callB cr_abs (by rfl) T.b_abs (by decide +kernel) (pa_cons (pv 5) pa_nil)) (pe_op o_pow pe_int pe_int) (nomark _))))) (pss_cons (ps_asg (pe_op o_div (pe_callB cr_abs (by rfl) T.b_abs (by decide +kernel) (pa_cons (pv 5) pa_nil)) (pv 1)) (pg_sub (pv 0) pe_int set_list))
      (pss_one (ps_ret (pe_op o_mod (pe_callB cr_abs (by rfl) T.b_abs (by decide +kernel) (pa_cons (pv 5) pa_nil)) (pv 1))))) pss_nil)
      (pss_cons (ps_set (i := 6) sc.nd rfl (.inl rfl) (pe_op o_mod (pe_op o_mul (pe_op o_add (pe_op o_add (pe_op o_mod (pv 5) pe_int) (pe_op o_mul pe_int (pv 3))) pe_int) pe_int) pe_int))
      (pss_cons (ps_set (i := 6) sc.nd rfl (.inl rfl) (pe_op o_mod (pe_op o_add (pe_op o_add (pe_op o_mul (pv 6) (pv 6)) (pe_op o_mul pe_int (pv 3))) pe_int) pe_int))
      (pss_one (ps_ret (pe_op o_mod (pe_op o_div (pe_op o_mod (pe_op o_mul (pv 6) (pe_op o_add (pe_op o_mod (pv 6) pe_int) pe_int)) pe_int) pe_int) (pv 1))))))))))))

abbrev s_lpicked : Stmt := topS 13
abbrev N_lpicked : List Str := ["_law_pen_here", "_law_things", "_law_many", "_law_pool", "_law_found", "_law_k"]
theorem sc_lpicked : FnScope N_lpicked ["_law_pen_here", "_law_things", "_law_many"] (defScope s_lpicked) := ⟨rfl, rfl, rfl, by decide +kernel, rfl, by decide +kernel, by decide +kernel⟩
theorem ok_lpicked {f : Addr} {fd : FuncData} (F : Fun K "_law_picked" "_law_picked" s_lpicked f fd) (T : Tx mg) (h_ldraw : Has P w K mg base "_law_draw" ["_law_pen_here", "_law_many"] 1 (sp_ldraw K)) : FnOk P w K mg base CX0 2 f fd ["_law_pen_here", "_law_things", "_law_many"] (sp_lpicked K) := by
  have sc := sc_lpicked
  refine F.ok sc (len_lpicked K) (fun cdv A outer s H vs Q E hr h => ⟨t_lpicked K, ?_, rd_lpicked h⟩)
  exact (pss_cons (ps_set (i := 3) sc.nd rfl (.inl rfl) (pe_callTy cr_list (by rfl) T.b_list (by decide +kernel) (pa_cons (pv 1) pa_nil)))
      (pss_cons (ps_set (i := 4) sc.nd rfl (.inl rfl) (pe_lst pa_nil))
      (pss_cons (ps_for PassesOwn.never rfl (pi_range1 (by rfl) T.b_range (pa_cons (pv 2) pa_nil)) (pg_name (i := 5) sc.nd rfl (.inl rfl))
      (pss_one (ps_expr (pe_bm PySem.F.plainAttrs_list PySem.F.slot_list_append PySem.F.type_list_append mt_append (pv 4) (pa_cons (pe_bm PySem.F.plainAttrs_list PySem.F.slot_list_pop PySem.F.type_list_pop mt_popAt (pv 3) (pa_cons (pe_h h_ldraw (hr.mono (by decide)) (by rfl) (pa_cons (pv 0) (pa_cons (pe_callB cr_len (by rfl) T.b_len (by decide +kernel) (pa_cons (pv 3) pa_nil)) pa_nil))) pa_nil)) pa_nil)))))
      (pss_one (ps_ret (pv 4))))))

abbrev s_lcorners : Stmt := topS 14
abbrev N_lcorners : List Str := ["_law_pen_here", "_law_many", "_law_step", "_law_begins", "_law_first", "_law_found", "_law_k", "_law_corner"]
theorem sc_lcorners : FnScope N_lcorners ["_law_pen_here", "_law_many"] (defScope s_lcorners) := ⟨rfl, rfl, rfl, by decide +kernel, rfl, by decide +kernel, by decide +kernel⟩
theorem ok_lcorners {f : Addr} {fd : FuncData} (F : Fun K "_law_corners" "_law_corners" s_lcorners f fd) (T : Tx mg) (h_ldraw : Has P w K mg base "_law_draw" ["_law_pen_here", "_law_many"] 1 (sp_ldraw K)) : FnOk P w K mg base CX0 2 f fd ["_law_pen_here", "_law_many"] (sp_lcorners K) := by
  have sc := sc_lcorners
  refine F.ok sc (len_lcorners K) (fun cdv A outer s H vs Q E hr h => ⟨t_lcorners K, ?_, rd_lcorners h⟩)
  exact (pss_cons (ps_set (i := 2) sc.nd rfl (.inr rfl) (pe_ix ix_list (pe_lst (pa_cons pe_int (pa_cons pe_int (pa_cons pe_int (pa_cons (pe_op o_add (pe_op o_pow pe_int pe_int) pe_int) (pa_cons (pe_op o_pow pe_int pe_int) pa_nil)))))) (pe_h h_ldraw (hr.mono (by decide)) (by rfl) (pa_cons (pv 0) (pa_cons pe_int pa_nil))) (fun _ _ => rfl)))
      (pss_cons (ps_set (i := 3) sc.nd rfl (.inl rfl) (pe_lst (pa_cons pe_int (pa_cons pe_int (pa_cons (pe_op o_sub pe_int (pe_op o_mul (pv 2) (pe_h h_ldraw (hr.mono (by decide)) (by rfl) (pa_cons (pv 0) (pa_cons (pe_op o_add (pv 1) pe_int) pa_nil))))) (pa_cons (pe_op o_sub (pe_op o_sub (pe_op o_pow pe_int pe_int) pe_int) (pe_op o_mul (pv 2) (pe_op o_sub (pv 1) pe_int))) pa_nil))))))
      (pss_cons (ps_set (i := 4) sc.nd rfl (.inr rfl) (pe_ix ix_list (pv 3) (pe_h h_ldraw (hr.mono (by decide)) (by rfl) (pa_cons (pv 0) (pa_cons pe_int pa_nil))) (fun _ _ => rfl)))
      (pss_cons (ps_setLc (i := 5) (own := [("_law_k", 6)]) (by rfl) sc.nd rfl rfl (sw_true rfl rfl rfl (by decide +kernel)) (pi_range1 (by rfl) T.b_range (pa_cons (pv 1) pa_nil)) (blkOk_by (own := [("_law_k", 6)]) (N := N_lcorners) (sc := defScope s_lcorners) (by decide +kernel)) (fun _ _ _ _ _ => (pg_name (i := 6) sc.nd rfl (by first | exact .inl rfl | exact .inr rfl))) (fun _ _ _ _ _ => pts_nil) (fun _ _ _ _ _ => (pe_op o_add (pv 4) (pe_op o_mul (pv 2) (pv 6)))))
      (pss_cons (ps_if (pt_cmpR op_eq (pe_h h_ldraw (hr.mono (by decide)) (by rfl) (pa_cons (pv 0) (pa_cons pe_int pa_nil))) pe_int (nomark _)) (pss_one (ps_ret (pv 5))) pss_nil)
      (pss_one (ps_ret (pe_lc (own := [("_law_corner", 7)]) (by rfl) sc.nd (pi_list (pe_revL (pv 5))) (blkOk_by (own := [("_law_corner", 7)]) (N := N_lcorners) (sc := defScope s_lcorners) (by decide +kernel)) (fun _ _ _ _ _ => (pg_name (i := 7) sc.nd rfl (by first | exact .inl rfl | exact .inr rfl))) (fun _ _ _ _ _ => pts_nil) (fun _ _ _ _ _ => (pe_op o_sub pe_int (pv 7)))))))))))

abbrev s_lrows : Stmt := topS 15
abbrev N_lrows : List Str := ["_law_pen_here", "_law_many", "_law_n", "_law_bound", "_law_way", "_law_found", "_law_k", "_law_row", "_law_old", "_law_at", "_law_fresh_here"]
theorem sc_lrows : FnScope N_lrows ["_law_pen_here", "_law_many", "_law_n"] (defScope s_lrows) := ⟨rfl, rfl, rfl, by decide +kernel, rfl, by decide +kernel, by decide +kernel⟩
theorem ok_lrows {f : Addr} {fd : FuncData} (F : Fun K "_law_rows" "_law_rows" s_lrows f fd) (T : Tx mg) (h_ldraw : Has P w K mg base "_law_draw" ["_law_pen_here", "_law_many"] 1 (sp_ldraw K)) (h_lpicked : Has P w K mg base "_law_picked" ["_law_pen_here", "_law_things", "_law_many"] 2 (sp_lpicked K)) : FnOk P w K mg base CX0 3 f fd ["_law_pen_here", "_law_many", "_law_n"] (sp_lrows K) := by
  have sc := sc_lrows
  refine F.ok sc (len_lrows K) (fun cdv A outer s H vs Q E hr h => ⟨t_lrows K w, ?_, rd_lrows h⟩)
  exact (pss_cons (ps_set (i := 3) sc.nd rfl (.inl rfl) (pe_op o_add (pv 2) (pe_ix ix_list (pe_lst (pa_cons pe_int (pa_cons pe_int (pa_cons pe_int (pa_cons pe_int (pa_cons pe_int pa_nil)))))) (pe_h h_ldraw (hr.mono (by decide)) (by rfl) (pa_cons (pv 0) (pa_cons pe_int pa_nil))) (fun _ _ => rfl))))
      (pss_cons (ps_set (i := 4) sc.nd rfl (.inl rfl) (pe_h h_ldraw (hr.mono (by decide)) (by rfl) (pa_cons (pv 0) (pa_cons pe_int pa_nil))))
      (pss_cons (ps_set (i := 5) sc.nd rfl (.inl rfl) (pe_lst (pa_cons (pe_tupRg rfl (by rfl) T.b_tuple (prg_1 (by rfl) T.b_range (pv 2))) pa_nil)))
      (pss_cons (ps_for PassesOwn.never rfl (pi_range1 (by rfl) T.b_range (pa_cons (pe_op o_sub (pv 1) pe_int) pa_nil)) (pg_name (i := 6) sc.nd rfl (.inl rfl))
      (pss_cons (ps_set (i := 7) sc.nd rfl (.inl rfl) (pe_h h_lpicked (hr.mono (by decide)) (by rfl) (pa_cons (pv 0) (pa_cons (pe_listRg rfl (by rfl) T.b_list (prg_1 (by rfl) T.b_range (pv 3))) (pa_cons (pv 2) pa_nil)))))
      (pss_cut (ps_if (pt_cmpR o_gt (pv 4) pe_int (nomark _)) (pss_cons (ps_set (i := 8) sc.nd rfl (.inl rfl) (pe_ix ix_list (pv 5) (pe_h h_ldraw (hr.mono (by decide)) (by rfl) (pa_cons (pv 0) (pa_cons (pe_callB cr_len (by rfl) T.b_len (by decide +kernel) (pa_cons (pv 5) pa_nil)) pa_nil))) (fun _ _ => rfl)))
      (pss_cons (ps_set (i := 9) sc.nd rfl (.inl rfl) (pe_h h_ldraw (hr.mono (by decide)) (by rfl) (pa_cons (pv 0) (pa_cons (pv 2) pa_nil))))
      (pss_cons (ps_set (i := 10) sc.nd rfl (.inl rfl) (pe_ix ix_list (pe_lst (pa_cons (pe_h h_ldraw (hr.mono (by decide)) (by rfl) (pa_cons (pv 0) (pa_cons (pv 3) pa_nil))) (pa_cons (pe_op o_add (pv 3) (pv 6)) pa_nil))) (pe_callTy cr_intB (by rfl) T.b_int (by decide +kernel) (pa_cons (pe_and (pe_cmpR o_gt (pv 4) pe_int (nomark _)) (pe_one (pe_cmpR o_gt (pe_h h_ldraw (hr.mono (by decide)) (by rfl) (pa_cons (pv 0) (pa_cons pe_int pa_nil))) pe_int (nomark _)))) pa_nil)) (fun _ _ => rfl)))
      (pss_one (ps_set (i := 7) sc.nd rfl (.inl rfl) (pe_op op_catA (pe_op op_catA (pe_slice sl_tupA (pv 8) po_none (po_some (pv 9))) (pe_slice sl_tupA (pv 8) (po_some (pe_op o_add (pv 9) pe_int)) po_none)) (pe_tup (pa_cons (pv 10) pa_nil)))))))) pss_nil)
      (pss_cons (ps_set (i := 7) sc.nd rfl (.inl rfl) (pe_callTy cr_tuple (by rfl) T.b_tuple (by decide +kernel) (pa_cons (pe_callB (cr_sortedSet rfl) (by rfl) T.b_sorted (by decide +kernel) (pa_cons (pe_callTy (cr_setS rfl) (by rfl) T.b_set (by decide +kernel) (pa_cons (pv 7) pa_nil)) pa_nil)) pa_nil)))
      (pss_one (ps_if (PW.pt (pw_and (pt_cmpR op_eq (pe_callB cr_len (by rfl) T.b_len (by decide +kernel) (pa_cons (pv 7) pa_nil)) (pv 2) (nomark _)) (pw_and1 (pt_cmpR (op_notInD (units65 hr)) (pv 7) (pv 5) (by rfl))))) (pss_one (ps_expr (pe_bm PySem.F.plainAttrs_list PySem.F.slot_list_append PySem.F.type_list_append mt_append (pv 5) (pa_cons (pv 7) pa_nil)))) pss_nil))))))
      (pss_one (ps_ret (pe_h h_lpicked (hr.mono (by decide)) (by rfl) (pa_cons (pv 0) (pa_cons (pv 5) (pa_cons (pe_callB cr_len (by rfl) T.b_len (by decide +kernel) (pa_cons (pv 5) pa_nil)) pa_nil))))))))))

abbrev s_lshape : Stmt := topS 16
abbrev N_lshape : List Str := ["_law_pen_here", "_law_most", "_law_n", "_law_rows_here", "_law_names", "_law_row", "_law_one"]
theorem sc_lshape : FnScope N_lshape ["_law_pen_here", "_law_most"] (defScope s_lshape) := ⟨rfl, rfl, rfl, by decide +kernel, rfl, by decide +kernel, by decide +kernel⟩
theorem ok_lshape {f : Addr} {fd : FuncData} (F : Fun K "_law_shape" "_law_shape" s_lshape f fd) (T : Tx mg) (h_ldraw : Has P w K mg base "_law_draw" ["_law_pen_here", "_law_many"] 1 (sp_ldraw K)) (h_lrows : Has P w K mg base "_law_rows" ["_law_pen_here", "_law_many", "_law_n"] 3 (sp_lrows K)) (h_lcorners : Has P w K mg base "_law_corners" ["_law_pen_here", "_law_many"] 2 (sp_lcorners K)) : FnOk P w K mg base CX0 4 f fd ["_law_pen_here", "_law_most"] (sp_lshape K) := by
  have sc := sc_lshape
  refine F.ok sc (len_lshape K) (fun cdv A outer s H vs Q E hr h => ⟨t_lshape K, ?_, rd_lshape h⟩)
  exact (pss_cons (ps_set (i := 2) sc.nd rfl (.inr rfl) (pe_ix ix_list (pe_lst (pa_cons pe_int (pa_cons pe_int (pa_cons pe_int (pa_cons pe_int (pa_cons pe_int (pa_cons pe_int (pa_cons pe_int (pa_cons pe_int pa_nil))))))))) (pe_h h_ldraw (hr.mono (by decide)) (by rfl) (pa_cons (pv 0) (pa_cons pe_int pa_nil))) (fun _ _ => rfl)))
      (pss_cons (ps_set (i := 3) sc.nd rfl (.inl rfl) (pe_h h_lrows (hr.mono (by decide)) (by rfl) (pa_cons (pv 0) (pa_cons (pe_op o_add pe_int (pe_h h_ldraw (hr.mono (by decide)) (by rfl) (pa_cons (pv 0) (pa_cons (pv 1) pa_nil)))) (pa_cons (pv 2) pa_nil)))))
      (pss_cons (ps_set (i := 4) sc.nd rfl (.inr rfl) (pe_h h_lcorners (hr.mono (by decide)) (by rfl) (pa_cons (pv 0) (pa_cons (pe_op o_add pe_int (pe_callB (cr_max rfl) (by rfl) T.b_max (by decide +kernel) (pa_cons (pe_lc (own := [("_law_row", 5)]) (by rfl) sc.nd (pi_list (pv 3)) (blkOk_by (own := [("_law_row", 5)]) (N := N_lshape) (sc := defScope s_lshape) (by decide +kernel)) (fun _ _ _ _ _ => (pg_name (i := 5) sc.nd rfl (by first | exact .inl rfl | exact .inr rfl))) (fun _ _ _ _ _ => pts_nil) (fun _ _ _ _ _ => (pe_ix ix_tup (pv 5) (pe_op o_sub (pv 2) pe_int) (fun _ _ => rfl)))) pa_nil))) pa_nil))))
      (pss_one (ps_ret (pe_callTy cr_tuple (by rfl) T.b_tuple (by decide +kernel) (pa_cons (pe_lc (own := [("_law_row", 5)]) (by rfl) sc.nd (pi_list (pv 3)) (blkOk_by (own := [("_law_row", 5)]) (N := N_lshape) (sc := defScope s_lshape) (by decide +kernel)) (fun _ _ _ _ _ => (pg_name (i := 5) sc.nd rfl (by first | exact .inl rfl | exact .inr rfl))) (fun _ _ _ _ _ => pts_nil) (fun _ _ _ _ _ => (pe_callTy cr_tuple (by rfl) T.b_tuple (by decide +kernel) (pa_cons (pe_lc (own := [("_law_one", 6)]) (by rfl) sc.nd (pi_tup (pv 5)) (blkOk_by (own := [("_law_one", 6)]) (by kernel_rfl)) (fun _ _ _ _ _ => (pg_name (i := 6) sc.nd rfl (by first | exact .inl rfl | exact .inr rfl))) (fun _ _ _ _ _ => pts_nil) (fun _ _ _ _ _ => (pe_ix ix_list (pv 4) (pv 6) (fun _ _ => rfl)))) pa_nil)))) pa_nil)))))))

abbrev s_lfaces : Stmt := topS 17
abbrev N_lfaces : List Str := ["_law_piece", "_law_found", "_law_corner", "_law_face"]
theorem sc_lfaces : FnScope N_lfaces ["_law_piece"] (defScope s_lfaces) := ⟨rfl, rfl, rfl, by decide +kernel, rfl, by decide +kernel, by decide +kernel⟩
theorem ok_lfaces {f : Addr} {fd : FuncData} (F : Fun K "_law_faces" "_law_faces" s_lfaces f fd) (T : Tx mg) : FnOk P w K mg base CX0 1 f fd ["_law_piece"] (sp_lfaces K) := by
  have sc := sc_lfaces
  refine F.ok sc (len_lfaces K) (fun cdv A outer s H vs Q E hr h => ⟨t_lfaces K, ?_, rd_lfaces h⟩)
  exact (pss_cons (ps_set (i := 1) sc.nd rfl (.inl rfl) (pe_lst (pa_cons (pe_tup pa_nil) pa_nil)))
      (pss_cons (ps_for PassesOwn.never rfl (pi_tup (pv 0)) (pg_name (i := 2) sc.nd rfl (.inr rfl))
      (pss_one (ps_set (i := 1) sc.nd rfl (.inl rfl) (pe_op op_cat (pv 1) (pe_lc (own := [("_law_face", 3)]) (by rfl) sc.nd (pi_list (pv 1)) (blkOk_by (own := [("_law_face", 3)]) (N := N_lfaces) (sc := defScope s_lfaces) (by decide +kernel)) (fun _ _ _ _ _ => (pg_name (i := 3) sc.nd rfl (by first | exact .inl rfl | exact .inr rfl))) (fun _ _ _ _ _ => pts_nil) (fun _ _ _ _ _ => (pe_op op_catA (pv 3) (pe_tup (pa_cons (pv 2) pa_nil)))))))))
      (pss_one (ps_ret (pv 1)))))

abbrev s_llies : Stmt := topS 18
abbrev N_llies : List Str := ["_law_face", "_law_shape_here", "_law_laid", "_law_other", "_law_corner"]
theorem sc_llies : FnScope N_llies ["_law_face", "_law_shape_here", "_law_laid"] (defScope s_llies) := ⟨rfl, rfl, rfl, by decide +kernel, rfl, by decide +kernel, by decide +kernel⟩
theorem ok_llies {f : Addr} {fd : FuncData} (F : Fun K "_law_lies" "_law_lies" s_llies f fd) (T : Tx mg) : FnOk P w K mg base CX0 1 f fd ["_law_face", "_law_shape_here", "_law_laid"] (sp_llies K) := by
  have sc := sc_llies
  refine F.ok sc (len_llies K) (fun cdv A outer s H vs Q E hr h => ⟨t_llies K, ?_, rd_llies h⟩)
  exact (pss_cons (ps_for PassesOwn.never rfl (pi_list (pv 2)) (pg_name (i := 3) sc.nd rfl (.inr rfl))
      (pss_one (ps_if (pt_val (pe_callB (cr_all rfl) (by rfl) T.b_all (by decide +kernel) (pa_cons (pe_lc (own := [("_law_corner", 4)]) (by rfl) sc.nd (pi_seq (pv 0)) (blkOk_by (own := [("_law_corner", 4)]) (N := N_llies) (sc := defScope s_llies) (by decide +kernel)) (fun _ _ _ _ _ => (pg_name (i := 4) sc.nd rfl (by first | exact .inl rfl | exact .inr rfl))) (fun _ _ _ _ _ => pts_nil) (fun _ _ _ _ _ => (pe_cmpR op_in_seq (pv 4) (pe_ix ix_tup (pv 1) (pv 3) (fun _ _ => rfl)) (by rfl)))) pa_nil))) (pss_one (ps_ret pe_bl)) pss_nil)))
      (pss_one (ps_ret pe_bl)))

abbrev s_lsides : Stmt := topS 19
abbrev N_lsides : List Str := ["_law_pen_here", "_law_names", "_law_found", "_law_corner", "_law_one"]
theorem sc_lsides : FnScope N_lsides ["_law_pen_here"] (defScope s_lsides) := ⟨rfl, rfl, rfl, by decide +kernel, rfl, by decide +kernel, by decide +kernel⟩
theorem ok_lsides {f : Addr} {fd : FuncData} (F : Fun K "_law_sides" "_law_sides" s_lsides f fd) (T : Tx mg) (h_ldraw : Has P w K mg base "_law_draw" ["_law_pen_here", "_law_many"] 1 (sp_ldraw K)) (h_lcorners : Has P w K mg base "_law_corners" ["_law_pen_here", "_law_many"] 2 (sp_lcorners K)) (h_lpicked : Has P w K mg base "_law_picked" ["_law_pen_here", "_law_things", "_law_many"] 2 (sp_lpicked K)) : FnOk P w K mg base CX0 3 f fd ["_law_pen_here"] (sp_lsides K) := by
  have sc := sc_lsides
  refine F.ok sc (len_lsides K) (fun cdv A outer s H vs Q E hr h => ⟨t_lsides K, ?_, rd_lsides h⟩)
  exact (pss_cons (ps_set (i := 1) sc.nd rfl (.inr rfl) (pe_h h_lcorners (hr.mono (by decide)) (by rfl) (pa_cons (pv 0) (pa_cons (pe_op o_add pe_int (pe_h h_ldraw (hr.mono (by decide)) (by rfl) (pa_cons (pv 0) (pa_cons pe_int pa_nil)))) pa_nil))))
      (pss_cons (ps_setLc (i := 2) (own := [("_law_corner", 3)]) (by rfl) sc.nd rfl rfl (sw_true rfl rfl rfl (by decide +kernel)) (pi_list (pv 1)) (blkOk_by (own := [("_law_corner", 3)]) (N := N_lsides) (sc := defScope s_lsides) (by decide +kernel)) (fun _ _ _ _ _ => (pg_name (i := 3) sc.nd rfl (by first | exact .inl rfl | exact .inr rfl))) (fun _ _ _ _ _ => pts_nil) (fun _ _ _ _ _ => (pe_callTy cr_tuple (by rfl) T.b_tuple (by decide +kernel) (pa_cons (pe_lc (own := [("_law_one", 4)]) (by rfl) sc.nd (pi_list (pv 1)) (blkOk_by (own := [("_law_one", 4)]) (by kernel_rfl)) (fun _ _ _ _ _ => (pg_name (i := 4) sc.nd rfl (by first | exact .inl rfl | exact .inr rfl))) (fun _ _ _ _ _ => (pts_one (pt_cmpR op_ne (pv 4) (pv 3) (nomark _)))) (fun _ _ _ _ _ => (pv 4))) pa_nil))))
      (pss_one (ps_ret (pe_callTy cr_tuple (by rfl) T.b_tuple (by decide +kernel) (pa_cons (pe_h h_lpicked (hr.mono (by decide)) (by rfl) (pa_cons (pv 0) (pa_cons (pv 2) (pa_cons (pe_callB cr_len (by rfl) T.b_len (by decide +kernel) (pa_cons (pv 2) pa_nil)) pa_nil)))) pa_nil))))))

abbrev s_lfresh : Stmt := topS 20
abbrev N_lfresh : List Str := ["_law_shape_here", "_law_laid", "_law_k", "_law_face"]
theorem sc_lfresh : FnScope N_lfresh ["_law_shape_here", "_law_laid", "_law_k"] (defScope s_lfresh) := ⟨rfl, rfl, rfl, by decide +kernel, rfl, by decide +kernel, by decide +kernel⟩
theorem ok_lfresh {f : Addr} {fd : FuncData} (F : Fun K "_law_fresh" "_law_fresh" s_lfresh f fd) (T : Tx mg) (h_lfaces : Has P w K mg base "_law_faces" ["_law_piece"] 1 (sp_lfaces K)) (h_llies : Has P w K mg base "_law_lies" ["_law_face", "_law_shape_here", "_law_laid"] 1 (sp_llies K)) : FnOk P w K mg base CX0 2 f fd ["_law_shape_here", "_law_laid", "_law_k"] (sp_lfresh K) := by
  have sc := sc_lfresh
  refine F.ok sc (len_lfresh K) (fun cdv A outer s H vs Q E hr h => ⟨t_lfresh K, ?_, rd_lfresh h⟩)
  exact (pss_one (ps_ret (pe_lc (own := [("_law_face", 3)]) (by rfl) sc.nd (pi_list (pe_h h_lfaces (hr.mono (by decide)) (by rfl) (pa_cons (pe_ix ix_tup (pv 0) (pv 2) (fun _ _ => rfl)) pa_nil))) (blkOk_by (own := [("_law_face", 3)]) (N := N_lfresh) (sc := defScope s_lfresh) (by decide +kernel)) (fun _ _ _ _ _ => (pg_name (i := 3) sc.nd rfl (by first | exact .inl rfl | exact .inr rfl))) (fun _ _ _ _ _ => (pts_one (pt_not (pt_val (pe_h h_llies (hr.mono (by decide)) (by rfl) (pa_cons (pv 3) (pa_cons (pv 0) (pa_cons (pv 1) pa_nil)))))))) (fun _ _ _ _ _ => (pv 3)))))

abbrev s_lright : Stmt := topS 21
abbrev N_lright : List Str := ["_law_shape_here", "_law_laid", "_law_k", "_law_great", "_law_fit", "_law_brought", "_law_fresh_here", "_law_least", "_law_face", "_law_corner"]
theorem sc_lright : FnScope N_lright ["_law_shape_here", "_law_laid", "_law_k"] (defScope s_lright) := ⟨rfl, rfl, rfl, by decide +kernel, rfl, by decide +kernel, by decide +kernel⟩
theorem ok_lright {f : Addr} {fd : FuncData} (F : Fun K "_law_right" "_law_right" s_lright f fd) (T : Tx mg) (h_shared : Has P w K mg base "shared" ["shape", "laid", "k"] 2 (sp_shared K)) (h_fits : Has P w K mg base "fits" ["shape", "laid", "k"] 3 (sp_fits K)) (h_brings : Has P w K mg base "brings" ["shape", "laid", "k"] 4 (sp_brings K)) (h_lfresh : Has P w K mg base "_law_fresh" ["_law_shape_here", "_law_laid", "_law_k"] 2 (sp_lfresh K)) (h_lfaces : Has P w K mg base "_law_faces" ["_law_piece"] 1 (sp_lfaces K)) : FnOk P w K mg base CX0 5 f fd ["_law_shape_here", "_law_laid", "_law_k"] (sp_lright K) := by
  have sc := sc_lright
  refine F.ok sc (len_lright K) (fun cdv A outer s H vs Q E hr h => ⟨t_lright K, ?_, rd_lright h⟩)
  exact (pss_cons (ps_set (i := 3) sc.nd rfl (.inl rfl) (pe_h h_shared (hr.mono (by decide)) (by rfl) (pa_cons (pv 0) (pa_cons (pe_callTy cr_list (by rfl) T.b_list (by decide +kernel) (pa_cons (pv 1) pa_nil)) (pa_cons (pv 2) pa_nil)))))
      (pss_cons (ps_set (i := 4) sc.nd rfl (.inl rfl) (pe_h h_fits (hr.mono (by decide)) (by rfl) (pa_cons (pv 0) (pa_cons (pe_callTy cr_list (by rfl) T.b_list (by decide +kernel) (pa_cons (pv 1) pa_nil)) (pa_cons (pv 2) pa_nil)))))
      (pss_cons (ps_set (i := 5) sc.nd rfl (.inr rfl) (pe_h h_brings (hr.mono (by decide)) (by rfl) (pa_cons (pv 0) (pa_cons (pe_callTy cr_list (by rfl) T.b_list (by decide +kernel) (pa_cons (pv 1) pa_nil)) (pa_cons (pv 2) pa_nil)))))
      (pss_cons (ps_if (pt_cmpR op_ne (pv 4) (pe_cmpR (op_eqD hr.units) (pe_lc (own := [("_law_face", 8)]) (by rfl) sc.nd (pi_list (pv 3)) (blkOk_by (own := [("_law_face", 8)]) (N := N_lright) (sc := defScope s_lright) (by decide +kernel)) (fun _ _ _ _ _ => (pg_name (i := 8) sc.nd rfl (by first | exact .inl rfl | exact .inr rfl))) (fun _ _ _ _ _ => (pts_one (pt_cmpR op_ne (pe_callB cr_len (by rfl) T.b_len (by decide +kernel) (pa_cons (pv 8) pa_nil)) (pe_op o_sub (pe_callB cr_len (by rfl) T.b_len (by decide +kernel) (pa_cons (pe_ix ix_tup (pv 0) (pv 2) (fun _ _ => rfl)) pa_nil)) pe_int) (nomark _)))) (fun _ _ _ _ _ => (pv 8))) (pe_lst pa_nil) (nomark _)) (nomark _)) (pss_one (ps_ret pe_bl)) pss_nil)
      (pss_cons (ps_if (pt_cmpR op_ne (pv 4) (pe_cmpR op_notN1 (pv 5) pe_non (nomark _)) (nomark _)) (pss_one (ps_ret pe_bl)) pss_nil)
      (pss_cons (ps_set (i := 6) sc.nd rfl (.inr rfl) (pe_h h_lfresh (hr.mono (by decide)) (by rfl) (pa_cons (pv 0) (pa_cons (pv 1) (pa_cons (pv 2) pa_nil)))))
      (pss_cons (ps_if (pt_not (pt_val (pv 4))) (pss_cons (ps_set (i := 7) sc.nd rfl (.inl rfl) (pe_callTy cr_tuple (by rfl) T.b_tuple (by decide +kernel) (pa_cons (pe_lc (own := [("_law_corner", 9)]) (by rfl) sc.nd (pi_tup (pe_ix ix_tup (pv 0) (pv 2) (fun _ _ => rfl))) (blkOk_by (own := [("_law_corner", 9)]) (N := N_lright) (sc := defScope s_lright) (by decide +kernel)) (fun _ _ _ _ _ => (pg_name (i := 9) sc.nd rfl (by first | exact .inl rfl | exact .inr rfl))) (fun _ _ _ _ _ => (pts_one (pt_val (pe_callB (cr_all rfl) (by rfl) T.b_all (by decide +kernel) (pa_cons (pe_lc (own := [("_law_face", 8)]) (by rfl) sc.nd (pi_list (pv 6)) (blkOk_by (own := [("_law_face", 8)]) (by kernel_rfl)) (fun _ _ _ _ _ => (pg_name (i := 8) sc.nd rfl (by first | exact .inl rfl | exact .inr rfl))) (fun _ _ _ _ _ => pts_nil) (fun _ _ _ _ _ => (pe_cmpR op_in_seq (pv 9) (pv 8) (by rfl)))) pa_nil))))) (fun _ _ _ _ _ => (pv 9))) pa_nil)))
      (pss_one (ps_ret (pe_cmpR (op_notInD (units65 hr)) (pv 7) (pv 6) (by rfl))))) pss_nil)
      (pss_one (ps_ret (pe_cmpR (op_eqD hr.units) (pv 6) (pe_lc (own := [("_law_face", 8)]) (by rfl) sc.nd (pi_list (pe_h h_lfaces (hr.mono (by decide)) (by rfl) (pa_cons (pe_ix ix_tup (pv 0) (pv 2) (fun _ _ => rfl)) pa_nil))) (blkOk_by (own := [("_law_face", 8)]) (N := N_lright) (sc := defScope s_lright) (by decide +kernel)) (fun _ _ _ _ _ => (pg_name (i := 8) sc.nd rfl (by first | exact .inl rfl | exact .inr rfl))) (fun _ _ _ _ _ => (pts_one (pt_val (pe_callB (cr_all rfl) (by rfl) T.b_all (by decide +kernel) (pa_cons (pe_lc (own := [("_law_corner", 9)]) (by rfl) sc.nd (pi_tup (pv 5)) (blkOk_by (own := [("_law_corner", 9)]) (by kernel_rfl)) (fun _ _ _ _ _ => (pg_name (i := 9) sc.nd rfl (by first | exact .inl rfl | exact .inr rfl))) (fun _ _ _ _ _ => pts_nil) (fun _ _ _ _ _ => (pe_cmpR op_in_seq (pv 9) (pv 8) (by rfl)))) pa_nil))))) (fun _ _ _ _ _ => (pv 8))) (nomark _)))))))))))

abbrev s_lwalked : Stmt := topS 22
abbrev N_lwalked : List Str := ["_law_pen_here", "_law_shape_here", "_law_laid", "_law_count", "_law_turn", "_law_others", "_law_due", "_law_handed", "_law_again", "_law_can", "_law_k", "_law_found", "_law_face"]
theorem sc_lwalked : FnScope N_lwalked ["_law_pen_here", "_law_shape_here"] (defScope s_lwalked) := ⟨rfl, rfl, rfl, by decide +kernel, rfl, by decide +kernel, by decide +kernel⟩
theorem ok_lwalked {f : Addr} {fd : FuncData} (F : Fun K "_law_walked" "_law_walked" s_lwalked f fd) (T : Tx mg) (h_lright : Has P w K mg base "_law_right" ["_law_shape_here", "_law_laid", "_law_k"] 5 (sp_lright K)) (h_fits : Has P w K mg base "fits" ["shape", "laid", "k"] 3 (sp_fits K)) (h_nexts : Has P w K mg base "nexts" ["shape", "laid"] 4 (sp_nexts K)) (h_ldraw : Has P w K mg base "_law_draw" ["_law_pen_here", "_law_many"] 1 (sp_ldraw K)) (h_lfresh : Has P w K mg base "_law_fresh" ["_law_shape_here", "_law_laid", "_law_k"] 2 (sp_lfresh K)) (h_lfaces : Has P w K mg base "_law_faces" ["_law_piece"] 1 (sp_lfaces K)) : FnG P w K mg base 6 f fd ["_law_pen_here", "_law_shape_here"] (sp_lwalked K) := by
  have sc := sc_lwalked
  refine okG F sc (len_lwalked K) (fun cdv A outer s H vs Q E hg hr h => ⟨t_lwalked K, ?_, rd_lwalked h⟩)
  exact (pss_cons (ps_set (i := 2) sc.nd rfl (.inr rfl) (pe_lst pa_nil))
      (pss_cons (ps_set (i := 3) sc.nd rfl (.inl rfl) pe_int)
      (pss_cut (ps_for PassesOwn.never rfl (pi_range1 (by rfl) T.b_range (pa_cons (pe_op o_add (pe_callB cr_len (by rfl) T.b_len (by decide +kernel) (pa_cons (pv 1) pa_nil)) pe_int) pa_nil)) (pg_name (i := 4) sc.nd rfl (.inl rfl))
      (pss_cons (ps_setLc (i := 5) (own := [("_law_k", 10)]) (by rfl) sc.nd rfl rfl (sw_true rfl rfl rfl (by decide +kernel)) (pi_range1 (by rfl) T.b_range (pa_cons (pe_callB cr_len (by rfl) T.b_len (by decide +kernel) (pa_cons (pv 1) pa_nil)) pa_nil)) (blkOk_by (own := [("_law_k", 10)]) (N := N_lwalked) (sc := defScope s_lwalked) (by decide +kernel)) (fun _ _ _ _ _ => (pg_name (i := 10) sc.nd rfl (by first | exact .inl rfl | exact .inr rfl))) (fun _ _ _ _ _ => (pts_one (pt_cmpR op_notIn_seq (pv 10) (pv 2) (by rfl)))) (fun _ _ _ _ _ => (pv 10)))
      (pss_cons (ps_if (pt_not (pt_val (pe_callB (cr_all rfl) (by rfl) T.b_all (by decide +kernel) (pa_cons (pe_lc (own := [("_law_k", 10)]) (by rfl) sc.nd (pi_list (pv 5)) (blkOk_by (own := [("_law_k", 10)]) (N := N_lwalked) (sc := defScope s_lwalked) (by decide +kernel)) (fun _ _ _ _ _ => (pg_name (i := 10) sc.nd rfl (by first | exact .inl rfl | exact .inr rfl))) (fun _ _ _ _ _ => pts_nil) (fun _ _ _ _ _ => (pe_h h_lright (hr.mono (by decide)) (by rfl) (pa_cons (pv 1) (pa_cons (pv 2) (pa_cons (pv 10) pa_nil)))))) pa_nil)))) (pss_one (ps_ret pe_bl)) pss_nil)
      (pss_cons (ps_setLc (i := 6) (own := [("_law_k", 10)]) (by rfl) sc.nd rfl rfl (sw_true rfl rfl rfl (by decide +kernel)) (pi_list (pv 5)) (blkOk_by (own := [("_law_k", 10)]) (N := N_lwalked) (sc := defScope s_lwalked) (by decide +kernel)) (fun _ _ _ _ _ => (pg_name (i := 10) sc.nd rfl (by first | exact .inl rfl | exact .inr rfl))) (fun _ _ _ _ _ => (pts_one (pt_val (pe_h h_fits (hr.mono (by decide)) (by rfl) (pa_cons (pv 1) (pa_cons (pe_callTy cr_list (by rfl) T.b_list (by decide +kernel) (pa_cons (pv 2) pa_nil)) (pa_cons (pv 10) pa_nil))))))) (fun _ _ _ _ _ => (pv 10)))
      (pss_cons (ps_set (i := 7) sc.nd rfl (.inl rfl) (pe_callTy cr_list (by rfl) T.b_list (by decide +kernel) (pa_cons (pv 2) pa_nil)))
      (pss_cons (ps_for PassesOwn.never rfl (pi_range1 (by rfl) T.b_range (pa_cons pe_int pa_nil)) (pg_name (i := 8) sc.nd rfl (.inl rfl))
      (pss_cons (ps_set (i := 9) sc.nd rfl (.inl rfl) (pe_h h_nexts (hr.mono (by decide)) (by rfl) (pa_cons (pv 1) (pa_cons (pv 7) pa_nil))))
      (pss_cons (ps_if (PW.pt (pw_or (pt_cmpR op_ne (pe_callB (call_reprD hg hr.units) (by rfl) T.b_repr (by decide +kernel) (pa_cons (pv 9) pa_nil)) (pe_callB (call_reprD hg hr.units) (by rfl) T.b_repr (by decide +kernel) (pa_cons (pv 6) pa_nil)) (nomark _)) (pw_or1 (pt_cmpR (op_neD hr.units) (pv 7) (pv 2) (nomark _))))) (pss_one (ps_ret pe_bl)) pss_nil)
      (pss_one (ps_expr (pe_bm PySem.F.plainAttrs_list PySem.F.slot_list_append PySem.F.type_list_append mt_append (pv 9) (pa_cons pe_int pa_nil)))))))
      (pss_cons (ps_if (pt_cmpR (op_eqD hr.units) (pv 6) (pe_lst pa_nil) (nomark _)) (pss_one ps_break) pss_nil)
      (pss_cons (ps_set (i := 10) sc.nd rfl (.inl rfl) (pe_ix ix_list (pv 6) (pe_h h_ldraw (hr.mono (by decide)) (by rfl) (pa_cons (pv 0) (pa_cons (pe_callB cr_len (by rfl) T.b_len (by decide +kernel) (pa_cons (pv 6) pa_nil)) pa_nil))) (fun _ _ => rfl)))
      (pss_cons (ps_set (i := 3) sc.nd rfl (.inl rfl) (pe_op o_add (pv 3) (pe_callB cr_len (by rfl) T.b_len (by decide +kernel) (pa_cons (pe_h h_lfresh (hr.mono (by decide)) (by rfl) (pa_cons (pv 1) (pa_cons (pv 2) (pa_cons (pv 10) pa_nil)))) pa_nil))))
      (pss_one (ps_expr (pe_bm PySem.F.plainAttrs_list PySem.F.slot_list_append PySem.F.type_list_append mt_append (pv 2) (pa_cons (pv 10) pa_nil)))))))))))))
      (pss_cons (ps_set (i := 11) sc.nd rfl (.inl rfl) pe_dnewT)
      (pss_cons (ps_for PassesOwn.never rfl (pi_list (pv 2)) (pg_name (i := 10) sc.nd rfl (.inl rfl))
      (pss_one (ps_for PassesOwn.never rfl (pi_list (pe_h h_lfaces (hr.mono (by decide)) (by rfl) (pa_cons (pe_ix ix_tup (pv 1) (pv 10) (fun _ _ => rfl)) pa_nil))) (pg_name (i := 12) sc.nd rfl (.inl rfl))
      (pss_one (ps_asg pe_bl (pg_sub (pv 11) (pv 12) (set_dict (units1 hr))))))))
      (pss_one (ps_ret (pe_cmpR op_eq (pv 3) (pe_callB call_len_dT (by rfl) T.b_len (by decide +kernel) (pa_cons (pv 11) pa_nil)) (nomark _)))))))))

abbrev s_law : Stmt := topS 23
abbrev N_law : List Str := ["_law_script", "_law_pen_here", "_law_turn"]
theorem sc_law : FnScope N_law ["_law_script"] (defScope s_law) := ⟨rfl, rfl, rfl, by decide +kernel, rfl, by decide +kernel, by decide +kernel⟩
theorem ok_law {f : Addr} {fd : FuncData} (F : Fun K "law" "law" s_law f fd) (T : Tx mg) (h_lpen : Has P w K mg base "_law_pen" ["_law_script"] 1 (sp_lpen K)) (h_lshape : Has P w K mg base "_law_shape" ["_law_pen_here", "_law_most"] 4 (sp_lshape K)) (h_lwalked : HasG P w K mg base "_law_walked" ["_law_pen_here", "_law_shape_here"] 6 (sp_lwalked K)) (h_lsides : Has P w K mg base "_law_sides" ["_law_pen_here"] 3 (sp_lsides K)) : FnG P w K mg base 7 f fd ["_law_script"] (sp_law K) := by
  have sc := sc_law
  refine okG F sc (len_law K) (fun cdv A outer s H vs Q E hg hr h => ⟨t_law K, ?_, rd_law h⟩)
  exact (pss_cons (ps_set (i := 1) sc.nd rfl (.inl rfl) (pe_h h_lpen (hr.mono (by decide)) (by rfl) (pa_cons (pv 0) pa_nil)))
      (pss_cons (ps_for PassesOwn.never rfl (pi_range1 (by rfl) T.b_range (pa_cons pe_int pa_nil)) (pg_name (i := 2) sc.nd rfl (.inl rfl))
      (pss_one (ps_if (pt_not (pt_val (pe_g h_lwalked hg (hr.mono (by decide)) (by rfl) (pa_cons (pv 1) (pa_cons (pe_h h_lshape (hr.mono (by decide)) (by rfl) (pa_cons (pv 1) (pa_cons pe_int pa_nil))) pa_nil))))) (pss_one (ps_ret pe_bl)) pss_nil)))
      (pss_one (ps_ret (pe_g h_lwalked hg (hr.mono (by decide)) (by rfl) (pa_cons (pv 1) (pa_cons (pe_h h_lsides (hr.mono (by decide)) (by rfl) (pa_cons (pv 1) pa_nil)) pa_nil)))))))

end
/-! ## what the top has left -/
theorem all_mk {l : PySem.W.OpenLaw} {w : World} {K : PySem.W.Frag} {h : Heap} {mg : Str → Option Value} {fa f0 f1 f2 f3 f4 f5 f6 f7 f8 f9 f10 f11 f12 f13 f14 f15 f16 f17 f18 f19 f20 : Addr} (X : K.In h) (G : h.Ns mainGlobals mg) (hfa : mg "law" = some (.ref fa))
    {od0 an0 od1 an1 od2 an2 od3 an3 od4 an4 od5 an5 od6 an6 od7 an7 od8 an8 od9 an9 od10 an10 od11 an11 od12 an12 od13 an13 od14 an14 od15 an15 od16 an16 od17 an17 od18 an18 od19 an19 od20 an20 : Option Addr} {sl0 sl1 sl2 sl3 sl4 sl5 sl6 sl7 sl8 sl9 sl10 sl11 sl12 sl13 sl14 sl15 sl16 sl17 sl18 sl19 sl20 : Array (Option Value)} {oc0 kV0 dc0 pm0 cd0 ct0 oc1 kV1 dc1 pm1 cd1 ct1 oc2 kV2 dc2 pm2 cd2 ct2 oc3 kV3 dc3 pm3 cd3 ct3 oc4 kV4 dc4 pm4 cd4 ct4 oc5 kV5 dc5 pm5 cd5 ct5 oc6 kV6 dc6 pm6 cd6 ct6 oc7 kV7 dc7 pm7 cd7 ct7 oc8 kV8 dc8 pm8 cd8 ct8 oc9 kV9 dc9 pm9 cd9 ct9 oc10 kV10 dc10 pm10 cd10 ct10 oc11 kV11 dc11 pm11 cd11 ct11 oc12 kV12 dc12 pm12 cd12 ct12 oc13 kV13 dc13 pm13 cd13 ct13 oc14 kV14 dc14 pm14 cd14 ct14 oc15 kV15 dc15 pm15 cd15 ct15 oc16 kV16 dc16 pm16 cd16 ct16 oc17 kV17 dc17 pm17 cd17 ct17 oc18 kV18 dc18 pm18 cd18 ct18 oc19 kV19 dc19 pm19 cd19 ct19 oc20 kV20 dc20 pm20 cd20 ct20 : Value}
    (a0 : PySem.W.nsIn K mainGlobals "lies_in" = some (some (.ref f0))) (l0 : K.lookup f0 = some ⟨oc0, od0, .func (PySem.W.fnOf "lies_in" "lies_in" (defArgs s_lies_in) (defBody s_lies_in) (defScope s_lies_in) .none kV0 dc0 pm0 an0 cd0 ct0), sl0⟩) (c0 : PySem.W.codeIn K cd0 "lies_in" = true) (k0 : PySem.W.keepIn K (.ref f0) = true)
    (a1 : PySem.W.nsIn K mainGlobals "without" = some (some (.ref f1))) (l1 : K.lookup f1 = some ⟨oc1, od1, .func (PySem.W.fnOf "without" "without" (defArgs s_without) (defBody s_without) (defScope s_without) .none kV1 dc1 pm1 an1 cd1 ct1), sl1⟩) (c1 : PySem.W.codeIn K cd1 "without" = true) (k1 : PySem.W.keepIn K (.ref f1) = true)
    (a2 : PySem.W.nsIn K mainGlobals "common" = some (some (.ref f2))) (l2 : K.lookup f2 = some ⟨oc2, od2, .func (PySem.W.fnOf "common" "common" (defArgs s_common) (defBody s_common) (defScope s_common) .none kV2 dc2 pm2 an2 cd2 ct2), sl2⟩) (c2 : PySem.W.codeIn K cd2 "common" = true) (k2 : PySem.W.keepIn K (.ref f2) = true)
    (a3 : PySem.W.nsIn K mainGlobals "shared" = some (some (.ref f3))) (l3 : K.lookup f3 = some ⟨oc3, od3, .func (PySem.W.fnOf "shared" "shared" (defArgs s_shared) (defBody s_shared) (defScope s_shared) .none kV3 dc3 pm3 an3 cd3 ct3), sl3⟩) (c3 : PySem.W.codeIn K cd3 "shared" = true) (k3 : PySem.W.keepIn K (.ref f3) = true)
    (a4 : PySem.W.nsIn K mainGlobals "fits" = some (some (.ref f4))) (l4 : K.lookup f4 = some ⟨oc4, od4, .func (PySem.W.fnOf "fits" "fits" (defArgs s_fits) (defBody s_fits) (defScope s_fits) .none kV4 dc4 pm4 an4 cd4 ct4), sl4⟩) (c4 : PySem.W.codeIn K cd4 "fits" = true) (k4 : PySem.W.keepIn K (.ref f4) = true)
    (a5 : PySem.W.nsIn K mainGlobals "meets_without" = some (some (.ref f5))) (l5 : K.lookup f5 = some ⟨oc5, od5, .func (PySem.W.fnOf "meets_without" "meets_without" (defArgs s_meets_without) (defBody s_meets_without) (defScope s_meets_without) .none kV5 dc5 pm5 an5 cd5 ct5), sl5⟩) (c5 : PySem.W.codeIn K cd5 "meets_without" = true) (k5 : PySem.W.keepIn K (.ref f5) = true)
    (a6 : PySem.W.nsIn K mainGlobals "brings" = some (some (.ref f6))) (l6 : K.lookup f6 = some ⟨oc6, od6, .func (PySem.W.fnOf "brings" "brings" (defArgs s_brings) (defBody s_brings) (defScope s_brings) .none kV6 dc6 pm6 an6 cd6 ct6), sl6⟩) (c6 : PySem.W.codeIn K cd6 "brings" = true) (k6 : PySem.W.keepIn K (.ref f6) = true)
    (a7 : PySem.W.nsIn K mainGlobals "nexts" = some (some (.ref f7))) (l7 : K.lookup f7 = some ⟨oc7, od7, .func (PySem.W.fnOf "nexts" "nexts" (defArgs s_nexts) (defBody s_nexts) (defScope s_nexts) .none kV7 dc7 pm7 an7 cd7 ct7), sl7⟩) (c7 : PySem.W.codeIn K cd7 "nexts" = true) (k7 : PySem.W.keepIn K (.ref f7) = true)
    (a8 : PySem.W.nsIn K mainGlobals "_law_pen" = some (some (.ref f8))) (l8 : K.lookup f8 = some ⟨oc8, od8, .func (PySem.W.fnOf "_law_pen" "_law_pen" (defArgs s_lpen) (defBody s_lpen) (defScope s_lpen) .none kV8 dc8 pm8 an8 cd8 ct8), sl8⟩) (c8 : PySem.W.codeIn K cd8 "_law_pen" = true) (k8 : PySem.W.keepIn K (.ref f8) = true)
    (a9 : PySem.W.nsIn K mainGlobals "_law_draw" = some (some (.ref f9))) (l9 : K.lookup f9 = some ⟨oc9, od9, .func (PySem.W.fnOf "_law_draw" "_law_draw" (defArgs s_ldraw) (defBody s_ldraw) (defScope s_ldraw) .none kV9 dc9 pm9 an9 cd9 ct9), sl9⟩) (c9 : PySem.W.codeIn K cd9 "_law_draw" = true) (k9 : PySem.W.keepIn K (.ref f9) = true)
    (a10 : PySem.W.nsIn K mainGlobals "_law_picked" = some (some (.ref f10))) (l10 : K.lookup f10 = some ⟨oc10, od10, .func (PySem.W.fnOf "_law_picked" "_law_picked" (defArgs s_lpicked) (defBody s_lpicked) (defScope s_lpicked) .none kV10 dc10 pm10 an10 cd10 ct10), sl10⟩) (c10 : PySem.W.codeIn K cd10 "_law_picked" = true) (k10 : PySem.W.keepIn K (.ref f10) = true)
    (a11 : PySem.W.nsIn K mainGlobals "_law_corners" = some (some (.ref f11))) (l11 : K.lookup f11 = some ⟨oc11, od11, .func (PySem.W.fnOf "_law_corners" "_law_corners" (defArgs s_lcorners) (defBody s_lcorners) (defScope s_lcorners) .none kV11 dc11 pm11 an11 cd11 ct11), sl11⟩) (c11 : PySem.W.codeIn K cd11 "_law_corners" = true) (k11 : PySem.W.keepIn K (.ref f11) = true)
    (a12 : PySem.W.nsIn K mainGlobals "_law_rows" = some (some (.ref f12))) (l12 : K.lookup f12 = some ⟨oc12, od12, .func (PySem.W.fnOf "_law_rows" "_law_rows" (defArgs s_lrows) (defBody s_lrows) (defScope s_lrows) .none kV12 dc12 pm12 an12 cd12 ct12), sl12⟩) (c12 : PySem.W.codeIn K cd12 "_law_rows" = true) (k12 : PySem.W.keepIn K (.ref f12) = true)
    (a13 : PySem.W.nsIn K mainGlobals "_law_shape" = some (some (.ref f13))) (l13 : K.lookup f13 = some ⟨oc13, od13, .func (PySem.W.fnOf "_law_shape" "_law_shape" (defArgs s_lshape) (defBody s_lshape) (defScope s_lshape) .none kV13 dc13 pm13 an13 cd13 ct13), sl13⟩) (c13 : PySem.W.codeIn K cd13 "_law_shape" = true) (k13 : PySem.W.keepIn K (.ref f13) = true)
    (a14 : PySem.W.nsIn K mainGlobals "_law_faces" = some (some (.ref f14))) (l14 : K.lookup f14 = some ⟨oc14, od14, .func (PySem.W.fnOf "_law_faces" "_law_faces" (defArgs s_lfaces) (defBody s_lfaces) (defScope s_lfaces) .none kV14 dc14 pm14 an14 cd14 ct14), sl14⟩) (c14 : PySem.W.codeIn K cd14 "_law_faces" = true) (k14 : PySem.W.keepIn K (.ref f14) = true)
    (a15 : PySem.W.nsIn K mainGlobals "_law_lies" = some (some (.ref f15))) (l15 : K.lookup f15 = some ⟨oc15, od15, .func (PySem.W.fnOf "_law_lies" "_law_lies" (defArgs s_llies) (defBody s_llies) (defScope s_llies) .none kV15 dc15 pm15 an15 cd15 ct15), sl15⟩) (c15 : PySem.W.codeIn K cd15 "_law_lies" = true) (k15 : PySem.W.keepIn K (.ref f15) = true)
    (a16 : PySem.W.nsIn K mainGlobals "_law_sides" = some (some (.ref f16))) (l16 : K.lookup f16 = some ⟨oc16, od16, .func (PySem.W.fnOf "_law_sides" "_law_sides" (defArgs s_lsides) (defBody s_lsides) (defScope s_lsides) .none kV16 dc16 pm16 an16 cd16 ct16), sl16⟩) (c16 : PySem.W.codeIn K cd16 "_law_sides" = true) (k16 : PySem.W.keepIn K (.ref f16) = true)
    (a17 : PySem.W.nsIn K mainGlobals "_law_fresh" = some (some (.ref f17))) (l17 : K.lookup f17 = some ⟨oc17, od17, .func (PySem.W.fnOf "_law_fresh" "_law_fresh" (defArgs s_lfresh) (defBody s_lfresh) (defScope s_lfresh) .none kV17 dc17 pm17 an17 cd17 ct17), sl17⟩) (c17 : PySem.W.codeIn K cd17 "_law_fresh" = true) (k17 : PySem.W.keepIn K (.ref f17) = true)
    (a18 : PySem.W.nsIn K mainGlobals "_law_right" = some (some (.ref f18))) (l18 : K.lookup f18 = some ⟨oc18, od18, .func (PySem.W.fnOf "_law_right" "_law_right" (defArgs s_lright) (defBody s_lright) (defScope s_lright) .none kV18 dc18 pm18 an18 cd18 ct18), sl18⟩) (c18 : PySem.W.codeIn K cd18 "_law_right" = true) (k18 : PySem.W.keepIn K (.ref f18) = true)
    (a19 : PySem.W.nsIn K mainGlobals "_law_walked" = some (some (.ref f19))) (l19 : K.lookup f19 = some ⟨oc19, od19, .func (PySem.W.fnOf "_law_walked" "_law_walked" (defArgs s_lwalked) (defBody s_lwalked) (defScope s_lwalked) .none kV19 dc19 pm19 an19 cd19 ct19), sl19⟩) (c19 : PySem.W.codeIn K cd19 "_law_walked" = true) (k19 : PySem.W.keepIn K (.ref f19) = true)
    (a20 : PySem.W.nsIn K mainGlobals "law" = some (some (.ref f20))) (l20 : K.lookup f20 = some ⟨oc20, od20, .func (PySem.W.fnOf "law" "law" (defArgs s_law) (defBody s_law) (defScope s_law) .none kV20 dc20 pm20 an20 cd20 ct20), sl20⟩) (c20 : PySem.W.codeIn K cd20 "law" = true) (k20 : PySem.W.keepIn K (.ref f20) = true)
    (z0 : PySem.W.nsIn K mainGlobals "all" = some none)
    (z1 : PySem.W.nsIn K mainGlobals "tuple" = some none)
    (z2 : PySem.W.nsIn K mainGlobals "set" = some none)
    (z3 : PySem.W.nsIn K mainGlobals "sorted" = some none)
    (z4 : PySem.W.nsIn K mainGlobals "any" = some none)
    (z5 : PySem.W.nsIn K mainGlobals "len" = some none)
    (z6 : PySem.W.nsIn K mainGlobals "range" = some none)
    (z7 : PySem.W.nsIn K mainGlobals "abs" = some none)
    (z8 : PySem.W.nsIn K mainGlobals "list" = some none)
    (z9 : PySem.W.nsIn K mainGlobals "int" = some none)
    (z10 : PySem.W.nsIn K mainGlobals "max" = some none)
    (z11 : PySem.W.nsIn K mainGlobals "repr" = some none) :
    ∃ fd : FuncData, (∀ (s : Shared) (v : Value), BindsTo s fd ⟨[v], []⟩ [("_law_script", v)]) ∧ ∀ base : Heap, K.In base → base.Ns mainGlobals mg → FnG l.prog w K mg base 7 fa fd ["_law_script"] (sp_law K) := by
  have e := hfa.symm.trans (PySem.W.mg_of X G a20)
  cases e
  have T : Tx mg := ⟨PySem.W.mg_none_of X G z0, PySem.W.mg_none_of X G z1, PySem.W.mg_none_of X G z2, PySem.W.mg_none_of X G z3, PySem.W.mg_none_of X G z4, PySem.W.mg_none_of X G z5, PySem.W.mg_none_of X G z6, PySem.W.mg_none_of X G z7, PySem.W.mg_none_of X G z8, PySem.W.mg_none_of X G z9, PySem.W.mg_none_of X G z10, PySem.W.mg_none_of X G z11⟩
  have F0 := fun_mk (st := s_lies_in) l0 c0 k0
  have b0 := F0.binds (ps := ["face", "other"]) fun _ _ _ _ _ _ us hl => match us, hl with | [_, _], _ => rfl
  have F1 := fun_mk (st := s_without) l1 c1 k1
  have b1 := F1.binds (ps := ["face", "corner"]) fun _ _ _ _ _ _ us hl => match us, hl with | [_, _], _ => rfl
  have F2 := fun_mk (st := s_common) l2 c2 k2
  have b2 := F2.binds (ps := ["face", "other"]) fun _ _ _ _ _ _ us hl => match us, hl with | [_, _], _ => rfl
  have F3 := fun_mk (st := s_shared) l3 c3 k3
  have b3 := F3.binds (ps := ["shape", "laid", "k"]) fun _ _ _ _ _ _ us hl => match us, hl with | [_, _, _], _ => rfl
  have F4 := fun_mk (st := s_fits) l4 c4 k4
  have b4 := F4.binds (ps := ["shape", "laid", "k"]) fun _ _ _ _ _ _ us hl => match us, hl with | [_, _, _], _ => rfl
  have F5 := fun_mk (st := s_meets_without) l5 c5 k5
  have b5 := F5.binds (ps := ["shape", "laid", "k", "corner"]) fun _ _ _ _ _ _ us hl => match us, hl with | [_, _, _, _], _ => rfl
  have F6 := fun_mk (st := s_brings) l6 c6 k6
  have b6 := F6.binds (ps := ["shape", "laid", "k"]) fun _ _ _ _ _ _ us hl => match us, hl with | [_, _, _], _ => rfl
  have F7 := fun_mk (st := s_nexts) l7 c7 k7
  have b7 := F7.binds (ps := ["shape", "laid"]) fun _ _ _ _ _ _ us hl => match us, hl with | [_, _], _ => rfl
  have F8 := fun_mk (st := s_lpen) l8 c8 k8
  have b8 := F8.binds (ps := ["_law_script"]) fun _ _ _ _ _ _ us hl => match us, hl with | [_], _ => rfl
  have F9 := fun_mk (st := s_ldraw) l9 c9 k9
  have b9 := F9.binds (ps := ["_law_pen_here", "_law_many"]) fun _ _ _ _ _ _ us hl => match us, hl with | [_, _], _ => rfl
  have F10 := fun_mk (st := s_lpicked) l10 c10 k10
  have b10 := F10.binds (ps := ["_law_pen_here", "_law_things", "_law_many"]) fun _ _ _ _ _ _ us hl => match us, hl with | [_, _, _], _ => rfl
  have F11 := fun_mk (st := s_lcorners) l11 c11 k11
  have b11 := F11.binds (ps := ["_law_pen_here", "_law_many"]) fun _ _ _ _ _ _ us hl => match us, hl with | [_, _], _ => rfl
  have F12 := fun_mk (st := s_lrows) l12 c12 k12
  have b12 := F12.binds (ps := ["_law_pen_here", "_law_many", "_law_n"]) fun _ _ _ _ _ _ us hl => match us, hl with | [_, _, _], _ => rfl
  have F13 := fun_mk (st := s_lshape) l13 c13 k13
  have b13 := F13.binds (ps := ["_law_pen_here", "_law_most"]) fun _ _ _ _ _ _ us hl => match us, hl with | [_, _], _ => rfl
  have F14 := fun_mk (st := s_lfaces) l14 c14 k14
  have b14 := F14.binds (ps := ["_law_piece"]) fun _ _ _ _ _ _ us hl => match us, hl with | [_], _ => rfl
  have F15 := fun_mk (st := s_llies) l15 c15 k15
  have b15 := F15.binds (ps := ["_law_face", "_law_shape_here", "_law_laid"]) fun _ _ _ _ _ _ us hl => match us, hl with | [_, _, _], _ => rfl
  have F16 := fun_mk (st := s_lsides) l16 c16 k16
  have b16 := F16.binds (ps := ["_law_pen_here"]) fun _ _ _ _ _ _ us hl => match us, hl with | [_], _ => rfl
  have F17 := fun_mk (st := s_lfresh) l17 c17 k17
  have b17 := F17.binds (ps := ["_law_shape_here", "_law_laid", "_law_k"]) fun _ _ _ _ _ _ us hl => match us, hl with | [_, _, _], _ => rfl
  have F18 := fun_mk (st := s_lright) l18 c18 k18
  have b18 := F18.binds (ps := ["_law_shape_here", "_law_laid", "_law_k"]) fun _ _ _ _ _ _ us hl => match us, hl with | [_, _, _], _ => rfl
  have F19 := fun_mk (st := s_lwalked) l19 c19 k19
  have b19 := F19.binds (ps := ["_law_pen_here", "_law_shape_here"]) fun _ _ _ _ _ _ us hl => match us, hl with | [_, _], _ => rfl
  have F20 := fun_mk (st := s_law) l20 c20 k20
  have b20 := F20.binds (ps := ["_law_script"]) fun _ _ _ _ _ _ us hl => match us, hl with | [_], _ => rfl
  refine ⟨PySem.W.fnOf "law" "law" (defArgs s_law) (defBody s_law) (defScope s_law) .none kV20 dc20 pm20 an20 cd20 ct20, fun s v => BindsTo.of_eq rfl, fun base _ _ => ?_⟩
  have H0 : Has l.prog w K mg base "lies_in" ["face", "other"] 1 (sp_lies_in K) := ⟨f0, _, PySem.W.mg_of X G a0, k0, b0, ok_lies_in F0 T⟩
  have H1 : Has l.prog w K mg base "without" ["face", "corner"] 1 (sp_without K) := ⟨f1, _, PySem.W.mg_of X G a1, k1, b1, ok_without F1 T⟩
  have H2 : Has l.prog w K mg base "common" ["face", "other"] 1 (sp_common K) := ⟨f2, _, PySem.W.mg_of X G a2, k2, b2, ok_common F2 T⟩
  have H3 : Has l.prog w K mg base "shared" ["shape", "laid", "k"] 2 (sp_shared K) := ⟨f3, _, PySem.W.mg_of X G a3, k3, b3, ok_shared F3 T H2 H0⟩
  have H4 : Has l.prog w K mg base "fits" ["shape", "laid", "k"] 3 (sp_fits K) := ⟨f4, _, PySem.W.mg_of X G a4, k4, b4, ok_fits F4 T H3⟩
  have H5 : Has l.prog w K mg base "meets_without" ["shape", "laid", "k", "corner"] 2 (sp_meets_without K) := ⟨f5, _, PySem.W.mg_of X G a5, k5, b5, ok_meets_without F5 T H1 H0⟩
  have H6 : Has l.prog w K mg base "brings" ["shape", "laid", "k"] 4 (sp_brings K) := ⟨f6, _, PySem.W.mg_of X G a6, k6, b6, ok_brings F6 T H4 H5⟩
  have H7 : Has l.prog w K mg base "nexts" ["shape", "laid"] 4 (sp_nexts K) := ⟨f7, _, PySem.W.mg_of X G a7, k7, b7, ok_nexts F7 T H4⟩
  have H8 : Has l.prog w K mg base "_law_pen" ["_law_script"] 1 (sp_lpen K) := ⟨f8, _, PySem.W.mg_of X G a8, k8, b8, ok_lpen F8 T⟩
  have H9 : Has l.prog w K mg base "_law_draw" ["_law_pen_here", "_law_many"] 1 (sp_ldraw K) := ⟨f9, _, PySem.W.mg_of X G a9, k9, b9, ok_ldraw F9 T⟩
  have H10 : Has l.prog w K mg base "_law_picked" ["_law_pen_here", "_law_things", "_law_many"] 2 (sp_lpicked K) := ⟨f10, _, PySem.W.mg_of X G a10, k10, b10, ok_lpicked F10 T H9⟩
  have H11 : Has l.prog w K mg base "_law_corners" ["_law_pen_here", "_law_many"] 2 (sp_lcorners K) := ⟨f11, _, PySem.W.mg_of X G a11, k11, b11, ok_lcorners F11 T H9⟩
  have H12 : Has l.prog w K mg base "_law_rows" ["_law_pen_here", "_law_many", "_law_n"] 3 (sp_lrows K) := ⟨f12, _, PySem.W.mg_of X G a12, k12, b12, ok_lrows F12 T H9 H10⟩
  have H13 : Has l.prog w K mg base "_law_shape" ["_law_pen_here", "_law_most"] 4 (sp_lshape K) := ⟨f13, _, PySem.W.mg_of X G a13, k13, b13, ok_lshape F13 T H9 H12 H11⟩
  have H14 : Has l.prog w K mg base "_law_faces" ["_law_piece"] 1 (sp_lfaces K) := ⟨f14, _, PySem.W.mg_of X G a14, k14, b14, ok_lfaces F14 T⟩
  have H15 : Has l.prog w K mg base "_law_lies" ["_law_face", "_law_shape_here", "_law_laid"] 1 (sp_llies K) := ⟨f15, _, PySem.W.mg_of X G a15, k15, b15, ok_llies F15 T⟩
  have H16 : Has l.prog w K mg base "_law_sides" ["_law_pen_here"] 3 (sp_lsides K) := ⟨f16, _, PySem.W.mg_of X G a16, k16, b16, ok_lsides F16 T H9 H11 H10⟩
  have H17 : Has l.prog w K mg base "_law_fresh" ["_law_shape_here", "_law_laid", "_law_k"] 2 (sp_lfresh K) := ⟨f17, _, PySem.W.mg_of X G a17, k17, b17, ok_lfresh F17 T H14 H15⟩
  have H18 : Has l.prog w K mg base "_law_right" ["_law_shape_here", "_law_laid", "_law_k"] 5 (sp_lright K) := ⟨f18, _, PySem.W.mg_of X G a18, k18, b18, ok_lright F18 T H3 H4 H6 H17 H14⟩
  have H19 : HasG l.prog w K mg base "_law_walked" ["_law_pen_here", "_law_shape_here"] 6 (sp_lwalked K) := ⟨f19, _, PySem.W.mg_of X G a19, k19, b19, ok_lwalked F19 T H18 H4 H7 H9 H17 H14⟩
  exact ok_law F20 T H8 H13 H19 H16

end Ws

open PySem PySem.W PyProof.Rows in
set_option maxRecDepth 100000 in
set_option maxHeartbeats 0 in
theorem PySem.Challenge.cw_wholesides_k12_whole_all_faces_of_what_c_holds : PySem.Challenge.rw_wholesides_k12_whole_all_faces_of_what_c.Holds := by
  w_on; o_law; k_head; (case hw => w_witness2)
  k_fill
  refine Ws.walkG (l := PySem.Challenge.rw_wholesides_k12_whole_all_faces_of_what_c) (n := 63) (k := 7) (x := "_law_script") (sp := fun w => Ws.sp_law _) rfl (by decide) rfl ⟨rfl, by decide, by decide⟩ (fun w h Y => PySem.W.kIn_of Y) ?F (fun w H a ns hl hS hH => ⟨a, ns, rfl, Ws.fz_of hS hH, fun _ => rfl⟩)
  case F =>
    intro w mg fa h KX G hmg
    refine' Ws.all_mk KX G hmg ?a0 ?l0 ?c0 ?k0 ?a1 ?l1 ?c1 ?k1 ?a2 ?l2 ?c2 ?k2 ?a3 ?l3 ?c3 ?k3 ?a4 ?l4 ?c4 ?k4 ?a5 ?l5 ?c5 ?k5 ?a6 ?l6 ?c6 ?k6 ?a7 ?l7 ?c7 ?k7 ?a8 ?l8 ?c8 ?k8 ?a9 ?l9 ?c9 ?k9 ?a10 ?l10 ?c10 ?k10 ?a11 ?l11 ?c11 ?k11 ?a12 ?l12 ?c12 ?k12 ?a13 ?l13 ?c13 ?k13 ?a14 ?l14 ?c14 ?k14 ?a15 ?l15 ?c15 ?k15 ?a16 ?l16 ?c16 ?k16 ?a17 ?l17 ?c17 ?k17 ?a18 ?l18 ?c18 ?k18 ?a19 ?l19 ?c19 ?k19 ?a20 ?l20 ?c20 ?k20 ?z0 ?z1 ?z2 ?z3 ?z4 ?z5 ?z6 ?z7 ?z8 ?z9 ?z10 ?z11
    (case a0 => k_is)
    (case l0 => k_is)
    (case c0 => k_is)
    (case k0 => k_is)
    (case a1 => k_is)
    (case l1 => k_is)
    (case c1 => k_is)
    (case k1 => k_is)
    (case a2 => k_is)
    (case l2 => k_is)
    (case c2 => k_is)
    (case k2 => k_is)
    (case a3 => k_is)
    (case l3 => k_is)
    (case c3 => k_is)
    (case k3 => k_is)
    (case a4 => k_is)
    (case l4 => k_is)
    (case c4 => k_is)
    (case k4 => k_is)
    (case a5 => k_is)
    (case l5 => k_is)
    (case c5 => k_is)
    (case k5 => k_is)
    (case a6 => k_is)
    (case l6 => k_is)
    (case c6 => k_is)
    (case k6 => k_is)
    (case a7 => k_is)
    (case l7 => k_is)
    (case c7 => k_is)
    (case k7 => k_is)
    (case a8 => k_is)
    (case l8 => k_is)
    (case c8 => k_is)
    (case k8 => k_is)
    (case a9 => k_is)
    (case l9 => k_is)
    (case c9 => k_is)
    (case k9 => k_is)
    (case a10 => k_is)
    (case l10 => k_is)
    (case c10 => k_is)
    (case k10 => k_is)
    (case a11 => k_is)
    (case l11 => k_is)
    (case c11 => k_is)
    (case k11 => k_is)
    (case a12 => k_is)
    (case l12 => k_is)
    (case c12 => k_is)
    (case k12 => k_is)
    (case a13 => k_is)
    (case l13 => k_is)
    (case c13 => k_is)
    (case k13 => k_is)
    (case a14 => k_is)
    (case l14 => k_is)
    (case c14 => k_is)
    (case k14 => k_is)
    (case a15 => k_is)
    (case l15 => k_is)
    (case c15 => k_is)
    (case k15 => k_is)
    (case a16 => k_is)
    (case l16 => k_is)
    (case c16 => k_is)
    (case k16 => k_is)
    (case a17 => k_is)
    (case l17 => k_is)
    (case c17 => k_is)
    (case k17 => k_is)
    (case a18 => k_is)
    (case l18 => k_is)
    (case c18 => k_is)
    (case k18 => k_is)
    (case a19 => k_is)
    (case l19 => k_is)
    (case c19 => k_is)
    (case k19 => k_is)
    (case a20 => k_is)
    (case l20 => k_is)
    (case c20 => k_is)
    (case k20 => k_is)
    (case z0 => k_is)
    (case z1 => k_is)
    (case z2 => k_is)
    (case z3 => k_is)
    (case z4 => k_is)
    (case z5 => k_is)
    (case z6 => k_is)
    (case z7 => k_is)
    (case z8 => k_is)
    (case z9 => k_is)
    (case z10 => k_is)
    (case z11 => k_is)


