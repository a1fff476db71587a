import PyProof.Rows.All
import Wide.All
import OpenK.AllK
import Wide.FinOn
import HandS.ForMost
import HandS.NoneIn
import HandS.CallLocal
import PyProof.ReprRoads
import KE.SortKeyHeap
import HandS.SortKw
import HandS.Strs
import HandS.SetFor
import HandS.TupAny
import KE.BitLaws
import PySem.Challenge.RW_wholesides_k04_faces_in_a_face
set_option Elab.async false
set_option linter.all false
set_option maxRecDepth 100000
set_option maxHeartbeats 4000000
namespace Ws
open PySem PySem.Spec PyProof.Rows L2
/-! # Contracts of defs that are called where no repr is under way -/

/-- a def's promise, kept wherever the stack bears no running repr -/
structure FnG (P : Program) (w : World) (K : PySem.W.Frag) (mg : Str → Option Value) (base : Heap) (k : Nat) (f : Addr) (fd : FuncData) (ps : List Str) (sp : Sp) : Prop where
  len : ∀ vs H Q E, sp vs H Q E → vs.length = ps.length
  run : ∀ (A : Around) (outer : List Env) (s : Shared) (H : Hp) (args : Args) (us : List Value) (vs : List V) (Q : VK) (E : XK), A.guards = some [] → Room k A →
    Env0 P w K mg base A outer s H → BindsTo s fd args (ps.zip us) → Vals vs us → sp vs H Q E → codeAny (model P w) A (.call (.ref f) args) (CR CX0 outer P w H s Q E) s

section
variable {P : Program} {w : World} {K : PySem.W.Frag} {mg : Str → Option Value} {base : Heap} {k : Nat} {f : Addr} {fd : FuncData} {ps : List Str} {sp : Sp}
theorem FnG.of (F : FnOk P w K mg base CX0 k f fd ps sp) : FnG P w K mg base k f fd ps sp :=
  ⟨F.len, fun A outer s H args us vs Q E _ => F.run A outer s H args us vs Q E⟩
theorem FnG.up {j : Nat} (F : FnG P w K mg base j f fd ps sp) (h : j ≤ k) : FnG P w K mg base k f fd ps sp :=
  ⟨F.len, fun A outer s H args us vs Q E hg hr => F.run A outer s H args us vs Q E hg (hr.mono h)⟩

/-- the body of such a def: what is known besides is that no repr runs -/
theorem okG {x qual : Str} {st : Stmt} {N : List Str} (F : Fun K x qual st f fd) (S : FnScope N ps (defScope st)) (len : ∀ vs H Q E, sp vs H Q E → vs.length = ps.length)
    (hbody : ∀ (cdv : Value) (A : Around) (outer : List Env) (s : Shared) (H : Hp) (vs : List V) (Q : VK) (E : XK), (A.deeper (envOfC qual (defScope st) s.heap.objs.size f cdv)).guards = some [] →
      Room k (A.deeper (envOfC qual (defScope st) s.heap.objs.size f cdv)) → sp vs H Q E →
      ∃ t, PSs (cxOf CX0 P w K mg base N qual (defScope st) f cdv A outer s H E).nox (defBody st) t ∧ t { nx := fun _ H' => Q .non H', rt := Q } (start N vs) H) :
    FnG P w K mg base (k + 1) f fd ps sp := by
  obtain ⟨oc, od, kV, doc, pm, an, cdv, ct, osl, rfl, lk, hcd⟩ := F.ex
  refine ⟨len, fun A outer s H args us vs Q E hg hr e0 hb r hsp => ?_⟩
  have kept : ∀ b o, base.get? b = some o → s.heap.get? b = some o := fun b o e => (e0.bs b o e).1
  have KX : K.In s.heap := e0.mod.kin.keeps kept
  refine codeAny_call_function hr.depth (KX _ _ lk) rfl S.co S.gen rfl (PySem.W.codeRec_of KX hcd) (hb _ _ _ _ ?_)
  refine wpAny_newFunctionEnv_cells S.kind (fun y hy => ?_) fun env he s1 x => ?_
  · rcases S.par y.1 (List.of_mem_zip (show (y.1, y.2) ∈ ps.zip us from hy)).1 with q | q
    · exact .inl q
    · exact .inr ⟨q, PySem.W.cellsFrom_some _ _ _ (.inl q)⟩
  · subst he
    obtain ⟨t, ht, hq⟩ := hbody cdv A outer s H vs Q E hg (hr.deeper _) hsp
    refine ⟨(e0.mod.nolimit.keeps kept).keeps x.toInCall.keep, codeAny_func (wpAny_mono (ht.nox.run [] s1 (start N vs) H _ (inv_start S hr.hd e0 (len _ _ _ _ hsp) r x) hq) (fun fl s' hs => ?_) fun e s' hs => hs)⟩
    cases fl with
    | ret u => exact let ⟨v, _, H', J, rv, q⟩ := hs; ⟨v, H', J.os, J.bare, J.base, J.hok, rv, q⟩
    | next => exact let ⟨_, H', J, q⟩ := hs; ⟨V.non, H', J.os, J.bare, J.base, J.hok, rfl, q⟩
    | brk => exact let ⟨_, _, _, q⟩ := hs; q.elim
    | cont => exact let ⟨_, _, _, q⟩ := hs; q.elim
end

/-! ## defs by their names -/
/-- the module's name x holds a def that keeps sp -/
structure Has (P : Program) (w : World) (K : PySem.W.Frag) (mg : Str → Option Value) (base : Heap) (x : Str) (ps : List Str) (k : Nat) (sp : Sp) : Prop where
  ex : ∃ (f : Addr) (fd : FuncData), mg x = some (.ref f) ∧ PySem.W.keepIn K (.ref f) = true ∧ Binds K fd ps [] ∧ FnOk P w K mg base CX0 k f fd ps sp
structure HasG (P : Program) (w : World) (K : PySem.W.Frag) (mg : Str → Option Value) (base : Heap) (x : Str) (ps : List Str) (k : Nat) (sp : Sp) : Prop where
  ex : ∃ (f : Addr) (fd : FuncData), mg x = some (.ref f) ∧ PySem.W.keepIn K (.ref f) = true ∧ Binds K fd ps [] ∧ FnG P w K mg base k f fd ps sp
/-- the def at the address f keeps sp -/
structure At (P : Program) (w : World) (K : PySem.W.Frag) (mg : Str → Option Value) (base : Heap) (f : Addr) (k : Nat) (sp : Sp) : Prop where
  ex : ∃ (fd : FuncData) (ps : List Str), PySem.W.keepIn K (.ref f) = true ∧ Binds K fd ps [] ∧ FnOk P w K mg base CX0 k f fd ps sp

section
variable {X : Cx} {x : Str} {ps : List Str} {k : Nat} {sp : Sp} {p pos : Pos} {e : Expr} {es : List Expr} {t : TA}
theorem Has.g {P : Program} {w : World} {K : PySem.W.Frag} {mg : Str → Option Value} {base : Heap} (h : Has P w K mg base x ps k sp) : HasG P w K mg base x ps k sp :=
  let ⟨f, fd, h1, h2, h3, h4⟩ := h.ex
  ⟨f, fd, h1, h2, h3, .of h4⟩
theorem pe_h (h : Has X.prog X.w X.K X.mg X.base x ps k sp) (hr : Room k X.A) (hg : Gl X x) (ha : PA X (e :: es) t) (hdb : (x == ("__debug__" : Str)) = false := by decide)
    (he : starEach (e :: es) X.env = (false, eval e X.env) :: starEach es X.env := by rfl) (hpl : (backTo pos (starEach es X.env)).any (·.1) = false := by rfl) :
    PE X (.Call (.Name x p) (e :: es) [] pos) (tCall sp [] E0 t) := by
  obtain ⟨f, fd, hm, hk, hb, F⟩ := h.ex
  exact pe_call F hr hg hm hk hb .nil pass0 ha hdb he hpl
theorem pe_h0 (h : Has X.prog X.w X.K X.mg X.base x ps k sp) (hr : Room k X.A) (hg : Gl X x) (hdb : (x == ("__debug__" : Str)) = false := by decide) :
    PE X (.Call (.Name x p) [] [] pos) (tCall sp [] E0 tNil) := by
  obtain ⟨f, fd, hm, hk, hb, F⟩ := h.ex
  exact pe_call0 F hr hg hm hk hb .nil pass0 hdb
/-- a call of a def that needs to know that no repr runs -/
theorem pe_g (h : HasG X.prog X.w X.K X.mg X.base x ps k sp) (hq : X.A.guards = some []) (hr : Room k X.A) (hg : Gl X x) (ha : PA X (e :: es) t) (hdb : (x == ("__debug__" : Str)) = false := by decide)
    (he : starEach (e :: es) X.env = (false, eval e X.env) :: starEach es X.env := by rfl) (hpl : (backTo pos (starEach es X.env)).any (·.1) = false := by rfl) :
    PE X (.Call (.Name x p) (e :: es) [] pos) (tCall sp [] E0 t) := by
  obtain ⟨f, fd, hm, hk, hb, F⟩ := h.ex
  refine ⟨fun pins s σ H Q I hw => wpAny_Call_Name_kw (ld_glob I hg hm ?_ hdb)⟩
  refine PySem.W.callWith_K (h₀ := X.base) I.ok.mod.kin hk (thn (ha.run pos pins s σ H _ I hw) fun us s1 ⟨vs, H1, I1, r, q⟩ => ⟨I1.kIn, ?_⟩) he hpl
  have r2 : Vals (vs ++ []) (us ++ []) := r.append .nil
  have hl : (us ++ []).length = ps.length := r2.length.symm.trans (F.len _ _ _ _ q)
  refine wpAny_call (codeAny_mono (F.run X.A X.stack s1 H1 ⟨us, []⟩ _ _ Q E0 hq hr I1.env0 (hb s1 us I1.kIn hl) r2 q) fun res s' hs => ?_)
  match res, hs with
  | .error _, z => exact False.elim z
  | .ok (.ret u), z => exact I1.after z
  | .ok .next, z => exact False.elim z
  | .ok .brk, z => exact False.elim z
  | .ok .cont, z => exact False.elim z
end

/-- a statement, then the rest; between them a word, from which the rest is shown once -/
def tCut (t u : TS) : TS := fun D σ H => ∃ M : L2.St → Hp → Prop, t { D with nx := M } σ H ∧ ∀ σ' H', M σ' H' → u D σ' H'
theorem pss_cut {X : Cx} {st : Stmt} {rest : List Stmt} {t u : TS} (h1 : PS X st t) (h2 : PSs X rest u) : PSs X (st :: rest) (tCut t u) := by
  refine ⟨fun pins s σ H D I ⟨M, hm, hu⟩ => wpAny_execs_cons (thn (h1.run pins s σ H _ I hm) fun f s1 q => ?_)⟩
  match f, q with
  | .next, ⟨σ', H', I', m⟩ => exact h2.run pins s1 σ' H' D I' (hu σ' H' m)
  | .ret _, q => exact q
  | .brk, q => exact q
  | .cont, q => exact q

/-! ## a local that holds a def: whatever def it is, its promise goes with it -/
def tCallF (P : Program) (w : World) (K : PySem.W.Frag) (mg : Str → Option Value) (base : Heap) (k i : Nat) (t : TA) : TE := fun σ H Q => ∃ f sp, σ[i]? = some (some (.ref f)) ∧ Held P w K mg base k f sp ∧ t σ H fun vs H1 => sp vs H1 Q E0
theorem pe_callF {X : Cx} {k i : Nat} {x : Str} {p pos : Pos} {e : Expr} {es : List Expr} {t : TA} (hr : Room k X.A) (hN : X.N[i]? = some x) (hv : Vis X.env.scope x) (ha : PA X (e :: es) t)
    (hdb : (x == ("__debug__" : Str)) = false := by decide) (hcd : (x == ("__classdict__" : Str)) = false := by decide)
    (he : starEach (e :: es) X.env = (false, eval e X.env) :: starEach es X.env := by rfl) (hpl : (backTo pos (starEach es X.env)).any (·.1) = false := by rfl) :
    PE X (.Call (.Name x p) (e :: es) [] pos) (tCallF X.prog X.w X.K X.mg X.base k i t) := by
  classical
  refine ⟨fun pins s σ H Q I h => ?_⟩
  obtain ⟨f, sp, h1, h2, h3⟩ := h
  exact (pe_callA (k := k) (i := i) (S := fun g => if g = f then some sp else none) (fun g sp' e => by
    by_cases hgf : g = f
    · rw [if_pos hgf] at e
      cases e
      exact hgf ▸ h2
    · rw [if_neg hgf] at e
      cases e) hr hN hv ha hdb hcd he hpl).run pins s σ H Q I ⟨f, sp, h1, if_pos rfl, h3⟩
theorem Has.held {P : Program} {w : World} {K : PySem.W.Frag} {mg : Str → Option Value} {base : Heap} {x : Str} {ps : List Str} {k : Nat} {sp : Sp} {f : Addr} (h : Has P w K mg base x ps k sp) (g : mg x = some (.ref f)) : Held P w K mg base k f sp := by
  obtain ⟨f', fd, h1, h2, h3, h4⟩ := h.ex
  rw [g] at h1
  cases h1
  exact ⟨fd, ps, h4, h2, h3⟩

/-! ## the end of a law row, from a promise that knows that no repr runs -/
theorem endG {P : Program} {w : World} {K : PySem.W.Frag} {mg mb : Str → Option Value} {k : Nat} {fa a : Addr} {fd : FuncData} {x : Str} {sp : Sp} {s₁ : Shared} {vs : List Value} {H : Hp}
    (KX : K.In s₁.heap) (hns : s₁.heap.Ns mainGlobals mg) (hb : s₁.heap.Ns builtinsNs mb) (hbb : ∀ x : Str, x ≠ "__name__" → mb x = bootBuiltins x) (hlim : s₁.heap.NoLimit) (hg : s₁.gens = #[])
    (ha : s₁.heap.get? a = some { cls := .type "list", data := .seq vs.toArray }) (hr : Room k callerA)
    (F : ∀ base : Heap, K.In base → base.Ns mainGlobals mg → FnG P w K mg base k fa fd [x] sp) (hbind : ∀ (s : Shared) (u : Value), BindsTo s fd ⟨[u], []⟩ [(x, u)])
    (hsp : sp [.ref a] H (fun v _ => v = .bl true) fun _ _ _ => False) (hok : HOk P w H s₁.heap)
    (hH : ∀ b u, H b = some u → b = a ∧ K.lookup a = none ∧ ∃ o v, u = .frz o v) :
    codeAny (model P w) callerA (.call (.ref fa) ⟨[.ref a], []⟩) (fun r s' => r = .ok (.ret (.bool true)) ∧ OldK s₁.heap s'.heap ∧ s'.os = s₁.os ∧ AllBare s'.gens) s₁ := by
  -- what is no list at a is not tracked
  have free : ∀ {b : Addr} {o : Obj}, s₁.heap.get? b = some o → (∀ xs n, o.data ≠ .seq xs n) → H b = none := fun {b o} e d => by
    cases q : H b with
    | none => rfl
    | some u =>
      obtain ⟨rfl, _⟩ := hH b u q
      rw [ha] at e
      cases e
      exact absurd rfl (d _ _)
  have ns : ∀ {b : Addr} {m : Str → Option Value}, s₁.heap.Ns b m → (hidT s₁.heap H).Ns b m := fun {b m} z => by
    obtain ⟨o, es, ep, e, d, r⟩ := z
    exact ⟨o, es, ep, hidT_get e (free e fun _ _ z => by rw [d] at z; cases z), d, r⟩
  have kin : K.In (hidT s₁.heap H) := fun b o e => hidT_get (KX b o e) (by
    cases q : H b with
    | none => rfl
    | some u =>
      obtain ⟨rfl, h2, _⟩ := hH b u q
      rw [h2] at e
      cases e)
  have lim : (hidT s₁.heap H).NoLimit := by
    obtain ⟨mc, h1, h2⟩ := hlim
    exact ⟨mc, ns h1, h2⟩
  have e0 : Env0 P w K mg (hidT s₁.heap H) callerA [] s₁ H := ⟨rfl, ⟨kin, ns hns, ⟨mb, ns hb, hbb⟩, lim⟩, fun b o e => of_hidT e, Nat.le_of_eq (hidT_size _ _), trivial, fun b z => (List.not_mem_nil (show b ∈ ([] : List Addr) from z)).elim, hok, .of_eq hg⟩
  refine codeAny_mono ((F _ kin (ns hns)).run callerA [] s₁ H ⟨[.ref a], []⟩ [.ref a] [.ref a] _ _ rfl hr e0 (hbind s₁ (.ref a)) (.cons rfl .nil) hsp) fun r s' h => ?_
  match r, h with
  | .error _, z => exact False.elim z
  | .ok .next, z => exact False.elim z
  | .ok .brk, z => exact False.elim z
  | .ok .cont, z => exact False.elim z
  | .ok (.ret u), ⟨v, H', os, bare, un, hok', rv, q⟩ =>
    obtain rfl : v = .bl true := q
    obtain rfl : u = Value.bool true := rv
    refine ⟨rfl, OldK.of_keep fun b o e => ?_, os, bare⟩
    cases q : H b with
    | none => exact un.keep b o e q (fun z => (List.not_mem_nil (show b ∈ ([] : List Addr) from z)).elim) (fun z => (List.not_mem_nil z).elim)
    | some u =>
      obtain ⟨_, _, ob, u', rfl⟩ := hH b u q
      have e1 := (hok b _ q).1
      have e2 := (hok' b _ (un.frzs b ob u' q)).1
      rw [e] at e1
      cases e1
      exact e2

theorem walkG {l : PySem.W.OpenLaw} {n k : Nat} {q : Program} {loose : List Str} {XP : (Str → Option Value) → Heap → Prop} {YP : World → Heap → Prop} {d : DefRec} {K : Params → PySem.W.Frag} {sp : World → Sp} {x : Str}
    (hn : l.most = some n) (hn2 : n ≤ sizeLine) (hdf : d.params.defaults = []) (hr : Room k callerA)
    (hY : ∀ (w : World) (h : Heap), YP w h → (K w.params).In h)
    (F : ∀ (w : World) (mg : Str → Option Value) (fa : Addr) (h : Heap), (K w.params).In h → h.Ns mainGlobals mg → mg d.name = some (.ref fa) →
      ∃ fd : FuncData, (∀ (s : Shared) (u : Value), BindsTo s fd ⟨[u], []⟩ [(x, u)]) ∧
        ∀ base : Heap, (K w.params).In base → base.Ns mainGlobals mg → FnG l.prog w (K w.params) mg base k fa fd [x] (sp w))
    (hsp : ∀ (w : World) (H : Hp) (a : Addr) (ns : List Int), ns.length ≤ n → SqL (K w.params) H a (ns.map V.int) → (∀ b u, H b = some u → b = a ∧ ∃ o v, u = .frz o v) → sp w [.ref a] H (fun v _ => v = .bl true) fun _ _ _ => False) :
    PySem.W.WalkO q loose XP YP l.row.toRowW d [] (fun f vs => PySem.call f vs) := by
  refine Att.attach_call hn hdf fun w s₀ s₁ mg mb fa o pm cd doc a vs ns G Y ho hd hcd hmg hobj hints hlen hg => ?_
  have KX := hY w _ Y
  obtain ⟨fd, hb, hF⟩ := F w mg fa _ KX G.T.g hmg
  have hl : ns.length ≤ sizeLine := Nat.le_trans hlen hn2
  have rv := vals_ints hints
  cases hk : (K w.params).lookup a with
  | some o =>
    have e := KX a o hk
    rw [hobj] at e
    cases e
    refine endG (H := fun _ => none) KX G.T.g G.T.b G.T.builtins G.T.nolimit hg hobj hr hF hb (hsp w _ a ns hlen ?_ fun b u z => nomatch z) (fun b u z => nomatch z) fun b u z => nomatch z
    exact .inr ⟨_, vs.toArray, _, hk, rfl, rfl, rfl, by rw [List.size_toArray, hints.length]; exact hl, by simpa using rv⟩
  | none =>
    have one : ∀ b u, (fun b => if b = a then some (HO.frz { cls := .type "list", data := .seq vs.toArray } (.lst (ns.map V.int))) else none) b = some u → b = a ∧ u = HO.frz { cls := .type "list", data := .seq vs.toArray } (.lst (ns.map V.int)) := fun b u z => by
      by_cases hb : b = a
      · exact ⟨hb, (Option.some.inj ((if_pos hb).symm.trans z)).symm⟩
      · exact nomatch ((if_neg hb).symm.trans z)
    refine endG (H := fun b => if b = a then some (.frz { cls := .type "list", data := .seq vs.toArray } (.lst (ns.map V.int))) else none) KX G.T.g G.T.b G.T.builtins G.T.nolimit hg hobj hr hF hb
      (hsp w _ a ns hlen (.inl (.inr ⟨_, if_pos rfl⟩)) fun b u z => ⟨(one b u z).1, _, _, (one b u z).2⟩) (fun b u z => ?_) fun b u z => ⟨(one b u z).1, hk, _, _, (one b u z).2⟩
    obtain ⟨rfl, rfl⟩ := one b u z
    exact ⟨hobj, by rw [List.length_map]; exact hl, vs, _, rv, hobj⟩

/-! ## repr of lists and tuples, one within another -/
mutual
/-- ints below 10 ^ k in size, no dict -/
def small (k : Nat) : PyData → Bool
  | .none | .bool _ | .str _ => true
  | .int i => decide (i.natAbs < 10 ^ k)
  | .list xs | .tuple xs => smallAll k xs
  | .dict _ => false
def smallAll (k : Nat) : List PyData → Bool
  | [] => true
  | x :: xs => small k x && smallAll k xs
end
mutual
/-- how many signs its text may have -/
def cost (k : Nat) : PyData → Nat
  | .none => 4
  | .bool _ => 5
  | .int _ => k + 1
  | .str s => (reprText s).length
  | .list xs | .tuple xs => costAll k xs + 4
  | .dict _ => 0
def costAll (k : Nat) : List PyData → Nat
  | [] => 0
  | x :: xs => cost k x + 2 + costAll k xs
end
theorem smallAll_iff {k : Nat} : ∀ {xs : List PyData}, smallAll k xs = true ↔ ∀ x ∈ xs, small k x = true
  | [] => by simp [smallAll]
  | x :: xs => by simp [smallAll, smallAll_iff (xs := xs)]
theorem costAll_le {k m : Nat} : ∀ {xs : List PyData}, (∀ x ∈ xs, cost k x ≤ m) → costAll k xs ≤ (m + 2) * xs.length
  | [], _ => Nat.zero_le _
  | x :: xs, h => by
    have h1 := h x List.mem_cons_self
    have h2 := costAll_le (m := m) fun y hy => h y (List.mem_cons_of_mem _ hy)
    show cost k x + 2 + costAll k xs ≤ (m + 2) * (xs.length + 1)
    rw [Nat.mul_add]
    omega
theorem textFrom_le : ∀ (ts : List Str) (k : Nat) (acc : Str), (textFrom k acc ts).length ≤ acc.length + piled ts
  | [], _, _ => by simp [textFrom, piled]
  | t :: r, k, acc => by
    have h := textFrom_le r (k + 1) (acc ++ (if k > 0 then ", " else "" : String) ++ t)
    have e : ((if k > 0 then ", " else "" : String) : Str).length ≤ 2 := by split <;> decide +kernel
    rw [strLen_append, strLen_append] at h
    rw [piled_cons]
    show (textFrom (k + 1) _ r).length ≤ _
    omega
theorem listText_le (ts : List Str) : (listText ts).length ≤ piled ts + 2 := by
  have h := textFrom_le ts 0 "["
  have e1 : (("[" : String) : Str).length = 1 := rfl
  have e2 : (("]" : String) : Str).length = 1 := rfl
  unfold listText
  rw [strLen_append, e2]
  omega
theorem tupleText_le (ts : List Str) : (tupleText ts).length ≤ piled ts + 4 := by
  have e3 : (((if ts.length == 1 then ",)" else ")" : String) : Str)).length ≤ 2 := by split <;> decide +kernel
  have e1 : ((("(" : String) : Str)).length = 1 := rfl
  unfold tupleText
  rw [strLen_append, strLen_append, e1]
  by_cases h : ts = []
  · subst h
    have e : (Str.join ", " []).length = 0 := rfl
    omega
  · have := join_length_add ts h
    omega
theorem int_le {i : Int} {k : Nat} (hk : 0 < k) (h : i.natAbs < 10 ^ k) : (Str.ofString (toString i)).length ≤ k + 1 := by
  rw [PySem.ofString_length]
  exact int_text_length_le10 hk h
mutual
theorem shown_le {k : Nat} (hk : 0 < k) : ∀ d : PyData, small k d = true → d.shown.length ≤ cost k d
  | .none, _ => (show (PyData.shown .none).length ≤ 4 by decide +kernel)
  | .bool b, _ => (show (PyData.shown (.bool b)).length ≤ 5 by cases b <;> decide +kernel)
  | .int i, h => by
    have h' : i.natAbs < 10 ^ k := by simpa [small] using h
    exact int_le hk h'
  | .str s, _ => Nat.le_refl _
  | .list xs, h => by
    have h1 := listText_le (PyData.shownAll xs)
    have h2 := shownAll_le hk xs (by simpa [small] using h)
    show (listText (PyData.shownAll xs)).length ≤ costAll k xs + 4
    omega
  | .tuple xs, h => by
    have h1 := tupleText_le (PyData.shownAll xs)
    have h2 := shownAll_le hk xs (by simpa [small] using h)
    show (tupleText (PyData.shownAll xs)).length ≤ costAll k xs + 4
    omega
  | .dict _, h => by simp [small] at h
theorem shownAll_le {k : Nat} (hk : 0 < k) : ∀ xs : List PyData, smallAll k xs = true → piled (PyData.shownAll xs) ≤ costAll k xs
  | [], _ => by simp [PyData.shownAll, piled]
  | x :: xs, h => by
    have h' : small k x = true ∧ smallAll k xs = true := by simpa [smallAll] using h
    have h1 := shown_le hk x h'.1
    have h2 := shownAll_le hk xs h'.2
    show piled (PyData.shown x :: PyData.shownAll xs) ≤ cost k x + 2 + costAll k xs
    rw [piled_cons]
    omega
end
theorem log_small {i : Int} {k : Nat} (hk : k ≤ 500) (h : i.natAbs < 10 ^ k) : i.natAbs.log2 < 1920 := by
  by_cases h0 : i.natAbs = 0
  · rw [h0]
    decide
  · rw [Nat.log2_lt h0]
    have h1 : 10 ^ k ≤ 10 ^ 500 := Nat.pow_le_pow_right (by decide) hk
    have h2 : (10 : Nat) ^ 500 < 2 ^ 1920 := by decide +kernel
    exact Nat.lt_of_lt_of_le h (Nat.le_trans h1 (Nat.le_of_lt h2))
mutual
theorem small_shows {k : Nat} (hk : k ≤ 500) : ∀ d : PyData, small k d = true → d.showable = true ∧ d.hasDict = false
  | .none, _ => by simp [PyData.showable, PyData.hasDict]
  | .bool b, _ => by simp [PyData.showable, PyData.hasDict]
  | .int i, h => by
    have h' : i.natAbs < 10 ^ k := by simpa [small] using h
    simp [PyData.showable, PyData.hasDict, log_small hk h']
  | .str s, _ => by simp [PyData.showable, PyData.hasDict]
  | .list xs, h => by simpa [PyData.showable, PyData.hasDict] using small_showsAll hk xs (by simpa [small] using h)
  | .tuple xs, h => by simpa [PyData.showable, PyData.hasDict] using small_showsAll hk xs (by simpa [small] using h)
  | .dict _, h => by simp [small] at h
theorem small_showsAll {k : Nat} (hk : k ≤ 500) : ∀ xs : List PyData, smallAll k xs = true → PyData.showableAll xs = true ∧ PyData.hasDictAll xs = false
  | [], _ => by simp [PyData.showableAll, PyData.hasDictAll]
  | x :: xs, h => by
    have h' : small k x = true ∧ smallAll k xs = true := by simpa [smallAll] using h
    have h1 := small_shows hk x h'.1
    have h2 := small_showsAll hk xs h'.2
    simp [PyData.showableAll, PyData.hasDictAll, h1, h2]
end
/-- repr of what is read as d: a list or a tuple -/
def rReprD (K : PySem.W.Frag) : List V → Hp → VK → Prop := fun xs H Q => ∃ (a : Addr) (d : PyData) (k : Nat), xs = [.ref a] ∧ Dp K H (.ref a) d ∧ d.depth ≤ 60 ∧ (0 < k ∧ k ≤ 500) ∧ small k d = true ∧ cost k d ≤ sizeLine ∧ Q (.str d.shown) H
theorem call_reprD {X : Cx} (hg : X.A.guards = some []) (hu : X.A.units + 64 < cLine) : CallR X (.builtin "repr") (rReprD X.K) := by
  intro pins s σ H vs us Q I r h
  obtain ⟨a, d, k, rfl, hd, hz, ⟨k0, k1⟩, hs, hc, q⟩ := h
  cases r with
  | cons r1 r2 =>
    cases r2
    cases r1
    obtain ⟨as, rd⟩ := Dp.reads I d _ _ hd rfl
    obtain ⟨s1, s2⟩ := small_shows k1 d hs
    exact repr_of_reads' rd s1 (PyData.noDict_hsm s2) hg (by omega) (fun _ _ e => e) (fun h' u tk kp => ⟨.str d.shown, H, I.kept kp, ⟨u, rfl⟩, q⟩) (Nat.le_trans (shown_le k0 d hs) hc)

/-! ## heaps: what is not in S stays; tuples and locked things stay always -/
structure Ch (S : List Addr) (H H' : Hp) : Prop where
  keep : ∀ b o, b ∉ S → H b = some o → H' b = some o
  tup : ∀ b xs, H b = some (.tup xs) → H' b = some (.tup xs)
  frz : ∀ b o u, H b = some (.frz o u) → H' b = some (.frz o u)
/-- a list that is read and never written: the script -/
def Fz (K : PySem.W.Frag) (H : Hp) (a : Addr) (xs : List V) : Prop := (∃ o, H a = some (.frz o (.lst xs))) ∨ ∀ H', SqL K H' a xs
section
variable {K : PySem.W.Frag} {S S' : List Addr} {H H' H1 H2 : Hp} {p q a l : Addr} {o u : HO} {xs ys : List V}
theorem Ch.refl : Ch S H H := ⟨fun _ _ _ h => h, fun _ _ h => h, fun _ _ _ h => h⟩
theorem Ch.trans (c : Ch S H H1) (d : Ch S H1 H2) : Ch S H H2 := ⟨fun b o n h => d.keep b o n (c.keep b o n h), fun b xs h => d.tup b xs (c.tup b xs h), fun b o u h => d.frz b o u (c.frz b o u h)⟩
theorem Ch.mono (c : Ch S H H') (h : ∀ b ∈ S, b ∈ S') : Ch S' H H' := ⟨fun b o n e => c.keep b o (fun z => n (h b z)) e, c.tup, c.frz⟩
theorem Ch.wide (c : Ch [] H H') : Ch S H H' := c.mono fun _ z => absurd z List.not_mem_nil
theorem Ch.lst (c : Ch [] H H') (h : H l = some o) : H' l = some o := c.keep l o List.not_mem_nil h
theorem Ch.but (c : Ch [p] H H') (h : H l = some o) (n : l ≠ p) : H' l = some o := c.keep l o (by simpa using n) h
theorem Ch.fz (c : Ch S H H') (h : Fz K H a xs) : Fz K H' a xs := by
  rcases h with ⟨o, h⟩ | h
  · exact .inl ⟨o, c.frz _ _ _ h⟩
  · exact .inr h
theorem Fz.sql (h : Fz K H a xs) : SqL K H a xs := by
  rcases h with ⟨o, h⟩ | h
  · exact .inl (.inr ⟨o, h⟩)
  · exact h H
theorem Ch.sqt (c : Ch S H H') (h : SqT K H a xs) : SqT K H' a xs := by
  rcases h with (h | ⟨o, h⟩) | h
  · exact .inl (.inl (c.tup _ _ h))
  · exact .inl (.inr ⟨o, c.frz _ _ _ h⟩)
  · exact .inr h
theorem Ch.sql (c : Ch [] H H') (h : SqL K H a xs) : SqL K H' a xs := by
  rcases h with (h | ⟨o, h⟩) | h
  · exact .inl (.inl (c.lst h))
  · exact .inl (.inr ⟨o, c.frz _ _ _ h⟩)
  · exact .inr h
theorem Ch.free (c : Ch [] H H') (h : H' l = none) : H l = none := by
  cases q : H l with
  | none => rfl
  | some o =>
    rw [c.lst q] at h
    cases h
theorem Ch.new (h : H p = none) : Ch S H (upd H p o) := by
  have k : ∀ b u, H b = some u → upd H p o b = some u := fun b u e => by
    rw [upd_ne (ne_of_none e h)]
    exact e
  exact ⟨fun b u _ e => k b u e, fun b xs e => k _ _ e, fun b o u e => k _ _ e⟩
/-- a list is changed -/
theorem Ch.put (h : H p = some (.lst xs)) : Ch [p] H (upd H p o) := by
  refine ⟨fun b u n e => ?_, fun b xs e => ?_, fun b o u e => ?_⟩
  · rw [upd_ne (by simpa using n)]
    exact e
  · rw [upd_ne (ne_of e h (by intro z; cases z))]
    exact e
  · rw [upd_ne (ne_of e h (by intro z; cases z))]
    exact e
/-- what is new beside H may change -/
theorem Ch.old (c : Ch S H H1) (h : H p = none) (d : Ch [p] H1 H2) : Ch S H H2 :=
  ⟨fun b u n e => d.but (c.keep b u n e) (ne_of_none e h), fun b xs e => d.tup b xs (c.tup b xs e), fun b o u e => d.frz b o u (c.frz b o u e)⟩
theorem Ch.old2 (c : Ch S H H1) (h : H p = none) (h' : H q = none) (d : Ch [p, q] H1 H2) : Ch S H H2 :=
  ⟨fun b u n e => d.keep b u (by simp only [List.mem_cons, List.not_mem_nil, or_false, not_or]; exact ⟨ne_of_none e h, ne_of_none e h'⟩) (c.keep b u n e), fun b xs e => d.tup b xs (c.tup b xs e), fun b o u e => d.frz b o u (c.frz b o u e)⟩
theorem ne_new (h : H l = some o) (h' : H p = none) : l ≠ p := ne_of_none h h'
end

/-! ## readings, from the left -/
section
variable {K : PySem.W.Frag} {σ : L2.St} {H : Hp} {Q : VK} {QB : Bool → Hp → Prop} {ta tb tc te : TE} {tt tu : TT} {x y v : V} {D : Ends} {s1 s2 : TS} {i j : Int} {n : Nat} {p a : Addr} {xs ys : List V}
theorem w_start {N : List Str} {vs : List V} {σ : L2.St} {t : TS} {D : Ends} {H : Hp} (e : start N vs = σ) (h : t D σ H) : t D (start N vs) H := e ▸ h
theorem w_var (h : σ[n]? = some (some v)) (q : Q v H) : tVar n σ H Q := ⟨v, h, q⟩
theorem w_var0 (q : Q v H) : tVar 0 (some v :: σ) H Q := ⟨v, rfl, q⟩
theorem w_varS {o : Option V} (h : tVar n σ H Q) : tVar (n + 1) (o :: σ) H Q := h
theorem w_c (q : Q v H) : tC v σ H Q := q
theorem w_op {r : R2} (h : ta σ H fun x H1 => tb σ H1 fun y H2 => r x y H2 Q) : tOp r ta tb σ H Q := h
theorem w_un {r : V → Hp → VK → Prop} (h : ta σ H fun x H1 => r x H1 Q) : tUn r ta σ H Q := h
theorem w_I0 {g : Int → Int → V} (q : Q (g i j) H) : rI0 g (.int i) (.int j) H Q := ⟨i, j, rfl, rfl, q⟩
theorem w_I {C : Int → Int → Prop} {g : Int → Int → V} (c : C i j) (q : Q (g i j) H) : rI C g (.int i) (.int j) H Q := ⟨i, j, rfl, rfl, c, q⟩
theorem w_U {g : Int → V} (q : Q (g i) H) : rU g (.int i) H Q := ⟨i, rfl, q⟩
theorem w_eqI (q : Q (.bl (decide (i = j))) H) : rEq (.int i) (.int j) H Q := ⟨rfl, by rw [show decide (V.int i = V.int j) = decide (i = j) by simp]; exact q⟩
theorem w_neI (q : Q (.bl (!decide (i = j))) H) : rNe (.int i) (.int j) H Q := ⟨rfl, by rw [show decide (V.int i = V.int j) = decide (i = j) by simp]; exact q⟩
theorem w_eqS {i j : Str} (q : Q (.bl (decide (i = j))) H) : rEq (.str i) (.str j) H Q := ⟨rfl, by rw [show decide (V.str i = V.str j) = decide (i = j) by simp]; exact q⟩
theorem w_neS {i j : Str} (q : Q (.bl (!decide (i = j))) H) : rNe (.str i) (.str j) H Q := ⟨rfl, by rw [show decide (V.str i = V.str j) = decide (i = j) by simp]; exact q⟩
theorem w_ixL (h : SqL K H p xs) (ha : atI xs i = some v) (q : Q v H) : rIxL K (.ref p) (.int i) H Q := ⟨p, xs, i, v, rfl, rfl, h, ha, q⟩
theorem w_ixT (h : SqT K H p xs) (ha : atI xs i = some v) (q : Q v H) : rIxT K (.ref p) (.int i) H Q := ⟨p, xs, i, v, rfl, rfl, h, ha, q⟩
theorem atI_int {ns : List Int} {i : Int} (h0 : 0 ≤ i) (h1 : i < ns.length) : atI (ns.map V.int) i = some (.int (ns.getD i.toNat 0)) := by
  have e : i = (i.toNat : Int) := by omega
  have hl : i.toNat < ns.length := by omega
  rw [e]
  refine atI_nat ?_
  rw [List.getElem?_map, Int.toNat_natCast, List.getElem?_eq_getElem hl, List.getD_eq_getElem?_getD, List.getElem?_eq_getElem hl]
  rfl
theorem w_ixLI {ns : List Int} (h : SqL K H p (ns.map V.int)) (h0 : 0 ≤ i) (h1 : i < ns.length) (q : Q (.int (ns.getD i.toNat 0)) H) : rIxL K (.ref p) (.int i) H Q := w_ixL h (atI_int h0 h1) q
theorem w_ixTI {ns : List Int} (h : SqT K H p (ns.map V.int)) (h0 : 0 ≤ i) (h1 : i < ns.length) (q : Q (.int (ns.getD i.toNat 0)) H) : rIxT K (.ref p) (.int i) H Q := w_ixT h (atI_int h0 h1) q
theorem w_test (h : te σ H fun x H' => ∃ k, x = .bl k ∧ QB k H') : tTest te σ H QB := h
theorem w_B (h : te σ H fun x H' => ∃ k, x = .bl k ∧ QB k H') : tB te σ H QB := h
theorem w_bl {b : Bool} {QB : Bool → Prop} (q : QB b) : ∃ k, V.bl b = .bl k ∧ QB k := ⟨b, rfl, q⟩
theorem w_and (h : tt σ H fun c H1 => if c = true then tu σ H1 QB else QB false H1) : tAnd tt tu σ H QB := h
theorem w_or (h : tt σ H fun c H1 => if c = true then QB true H1 else tu σ H1 QB) : tOr tt tu σ H QB := h
theorem w_not (h : tt σ H fun c H1 => QB (!c) H1) : tNot tt σ H QB := h
theorem w_notV (h : ta σ H fun x H1 => ∃ c, x = .bl c ∧ Q (.bl (!c)) H1) : tNotV ta σ H Q := h
theorem w_andV (h : ta σ H fun x H1 => ∃ c, x = .bl c ∧ if c = true then tb σ H1 Q else Q (.bl false) H1) : tAndV ta tb σ H Q := h
theorem w_orV (h : ta σ H fun x H1 => ∃ c, x = .bl c ∧ if c = true then Q (.bl true) H1 else tb σ H1 Q) : tOrV ta tb σ H Q := h
theorem w_ifE (h : tt σ H fun c H1 => if c = true then ta σ H1 Q else tb σ H1 Q) : tIf tt ta tb σ H Q := h
theorem w_ite {c : Prop} [Decidable c] {A B : Prop} (h1 : c → A) (h2 : ¬ c → B) : if decide c = true then A else B := by
  by_cases h : c
  · rw [if_pos (decide_eq_true h)]
    exact h1 h
  · rw [if_neg (by rw [decide_eq_false h]; decide)]
    exact h2 h
theorem w_itn {c : Prop} [Decidable c] {A B : Prop} (h1 : ¬ c → A) (h2 : c → B) : if (!decide c) = true then A else B := by
  by_cases h : c
  · rw [decide_eq_true h, if_neg (by decide)]
    exact h2 h
  · rw [decide_eq_false h, if_pos (by decide)]
    exact h1 h
theorem iteNT {A B : Prop} (h : B) : if (!true) = true then A else B := h
theorem iteNF {A B : Prop} (h : A) : if (!false) = true then A else B := h
theorem w_seq (h : s1 { D with nx := s2 D } σ H) : tSeq s1 s2 D σ H := h
/-- a word between a statement and the rest -/
theorem w_cut (M : L2.St → Hp → Prop) (h : s1 { D with nx := M } σ H) (k : ∀ σ' H', M σ' H' → s2 D σ' H') : tCut s1 s2 D σ H := ⟨M, h, k⟩
theorem w_next (h : D.nx σ H) : tNext D σ H := h
theorem w_if (h : tt σ H fun b H1 => if b = true then s1 D σ H1 else s2 D σ H1) : tIfS tt s1 s2 D σ H := h
theorem w_ret (h : te σ H D.rt) : tRet te D σ H := h
theorem w_drop (h : te σ H fun _ H1 => D.nx σ H1) : tDrop te D σ H := h
theorem w_asg {g : TG} (h : te σ H fun x H1 => g x σ H1 D.nx) : tAsg te g D σ H := h
theorem w_name {Qg : L2.St → Hp → Prop} (h : Qg (σ.set n (some v)) H) : gName n v σ H Qg := h
theorem w_unl {t : TGs} {Qg : L2.St → Hp → Prop} (h : SqL K H a xs) (hl : xs.length = n) (q : t xs σ H Qg) : gUnl K n t (.ref a) σ H Qg := ⟨a, xs, rfl, h, hl, q⟩
theorem w_gtup {t : TGs} {Qg : L2.St → Hp → Prop} (h : SqT K H a xs) (hl : xs.length = n) (q : t xs σ H Qg) : gTup K n t (.ref a) σ H Qg := ⟨a, xs, rfl, h, hl, q⟩
theorem w_gcons {t : TG} {u : TGs} {Qg : L2.St → Hp → Prop} (q : t v σ H fun σ' H' => u xs σ' H' Qg) : gCons t u (v :: xs) σ H Qg := ⟨v, xs, rfl, q⟩
theorem w_gnil {Qg : L2.St → Hp → Prop} (q : Qg σ H) : gNil [] σ H Qg := ⟨rfl, q⟩
theorem w_sub {to ti : TE} {t : TSet} {Qg : L2.St → Hp → Prop} (h : to σ H fun o H1 => ti σ H1 fun i H2 => t o i v H2 fun H3 => Qg σ H3) : gSub to ti t v σ H Qg := h
theorem w_setL {Qh : Hp → Prop} {k : Nat} (h : H p = some (.lst xs)) (hk : ixN xs.length i = some k) (q : ∀ H', Ch [p] H H' → H' p = some (.lst (xs.set k v)) → Qh H') : rSetL (.ref p) (.int i) v H Qh := ⟨p, xs, i, k, rfl, rfl, h, hk, q _ (.put h) upd_same⟩
theorem w_nilA {QA : List V → Hp → Prop} (q : QA [] H) : tNil σ H QA := q
theorem w_consA {tr : TA} {QA : List V → Hp → Prop} (h : te σ H fun x H1 => tr σ H1 fun xs H2 => QA (x :: xs) H2) : tCons te tr σ H QA := h
/-- a new object o is laid -/
def New (H : Hp) (o : HO) (Q : VK) : Prop := ∀ p, H p = none → Q (.ref p) (upd H p o)
theorem w_lst {t : TA} (h : t σ H fun xs H1 => xs.length ≤ sizeLine ∧ New H1 (.lst xs) Q) : tLst t σ H Q := h
theorem w_tup {t : TA} (h : t σ H fun xs H1 => xs.length ≤ sizeLine ∧ New H1 (.tup xs) Q) : tTup t σ H Q := h
/-- a new object: from then on the heap is a letter -/
theorem w_new {o : HO} (h : ∀ p H', H p = none → Ch [] H H' → H' p = some o → Q (.ref p) H') : New H o Q := fun p hp => h p _ hp (.new hp) upd_same
theorem w_newA {o : HO} (hz : n ≤ sizeLine) (h : ∀ p H', H p = none → Ch [] H H' → H' p = some o → Q (.ref p) H') : n ≤ sizeLine ∧ New H o Q := ⟨hz, w_new h⟩
theorem w_cb {r : List V → Hp → VK → Prop} {t : TA} (h : t σ H fun vs H1 => r vs H1 Q) : tCB r t σ H Q := h
theorem w_call {sp : Sp} {t : TA} (h : t σ H fun vs H1 => sp (vs ++ []) H1 Q E0) : tCall sp [] E0 t σ H Q := h
theorem w_sl {r : V → Option Int → Option Int → Hp → VK → Prop} {tl th : TO} (h : te σ H fun x H1 => tl σ H1 fun l H2 => th σ H2 fun u H3 => r x l u H3 Q) : tSl r te tl th σ H Q := h
theorem w_part {QO : Option Int → Hp → Prop} (h : te σ H fun x H1 => ∃ i, x = .int i ∧ QO (some i) H1) : tPart te σ H QO := h
theorem w_noPart {QO : Option Int → Hp → Prop} (h : QO none H) : tNoPart σ H QO := h
theorem w_int {QI : Int → Prop} (q : QI i) : ∃ k, V.int i = .int k ∧ QI k := ⟨i, rfl, q⟩
theorem w_slL {lo hi : Option Int} (h : SqL K H a xs) (q : ∀ p H', H p = none → Ch [] H H' → H' p = some (.lst (cutV xs lo hi)) → Q (.ref p) H') : rSlL K (.ref a) lo hi H Q := ⟨a, xs, rfl, h, w_new q⟩
theorem w_bm {T : String} {r : V → List V → Hp → VK → Prop} {t : TA} (h : te σ H fun x H1 => tyV K T x H1 ∧ t σ H1 fun xs H2 => r x xs H2 Q) : tBM K T r te t σ H Q := h
theorem w_tyL {A : Prop} (h : H p = some (.lst xs)) (q : A) : tyV K "list" (.ref p) H ∧ A := ⟨.inl ⟨rfl, _, SqL.of h⟩, q⟩
theorem w_app (h : H p = some (.lst xs)) (hz : xs.length < sizeLine) (q : ∀ H', Ch [p] H H' → H' p = some (.lst (xs ++ [v])) → Q .non H') : rAppend (.ref p) [v] H Q := ⟨p, xs, v, rfl, rfl, h, hz, q _ (.put h) upd_same⟩
end

/-! ## operators by named readings -/
section
variable {X : Cx} {H : Hp} {Q : VK} {i j : Int}
def rAdd : R2 := rI0 fun i j => .int (i + j)
def rSub : R2 := rI0 fun i j => .int (i - j)
def rMul : R2 := rI CMul fun i j => .int (i * j)
def rDiv : R2 := rI CDiv fun i j => .int (i / j)
def rMod : R2 := rI (fun _ j => 0 < j) fun i j => .int (i % j)
def rPow : R2 := rI CPow fun i j => .int (i ^ j.toNat)
def rShl : R2 := rI CPow fun i j => .int (i * 2 ^ j.toNat)
def rShr : R2 := rI (fun _ j => 0 ≤ j) fun i j => .int (i / 2 ^ j.toNat)
def rAnd : R2 := rI0 fun i j => .int (Builtin.bitAnd i j)
def rOr : R2 := rI0 fun i j => .int (Builtin.bitOr i j)
def rXor : R2 := rI0 fun i j => .int (Builtin.bitXor i j)
def rLt : R2 := rI0 fun i j => .bl (decide (i < j))
def rLe : R2 := rI0 fun i j => .bl (decide (i ≤ j))
def rGt : R2 := rI0 fun i j => .bl (decide (j < i))
def rGe : R2 := rI0 fun i j => .bl (decide (j ≤ i))
def rAddS : R2 := fun x y H Q => ∃ i j, x = .str i ∧ y = .str j ∧ i.length + j.length ≤ sizeLine ∧ Q (.str (i ++ j)) H
theorem o_add : OpR X (binaryOp .Add) rAdd := op_add
theorem o_sub : OpR X (binaryOp .Sub) rSub := op_sub
theorem o_mul : OpR X (binaryOp .Mult) rMul := op_mul
theorem o_div : OpR X (binaryOp .FloorDiv) rDiv := op_fdiv
theorem o_mod : OpR X (binaryOp .Mod) rMod := op_mod
theorem o_pow : OpR X (binaryOp .Pow) rPow := op_pow
theorem o_shl : OpR X (binaryOp .LShift) rShl := op_shl
theorem o_shr : OpR X (binaryOp .RShift) rShr := op_shr
theorem o_and : OpR X (binaryOp .BitAnd) rAnd := op_and
theorem o_or : OpR X (binaryOp .BitOr) rOr := op_or
theorem o_xor : OpR X (binaryOp .BitXor) rXor := op_xor
theorem o_lt : OpR X (compareOp .Lt) rLt := op_lt
theorem o_le : OpR X (compareOp .LtE) rLe := op_le
theorem o_gt : OpR X (compareOp .Gt) rGt := op_gt
theorem o_ge : OpR X (compareOp .GtE) rGe := op_ge
theorem o_adds : OpR X (binaryOp .Add) rAddS := op_add_str
theorem w_add (q : Q (.int (i + j)) H) : rAdd (.int i) (.int j) H Q := ⟨i, j, rfl, rfl, q⟩
theorem w_subt (q : Q (.int (i - j)) H) : rSub (.int i) (.int j) H Q := ⟨i, j, rfl, rfl, q⟩
theorem w_mul (c : CMul i j) (q : Q (.int (i * j)) H) : rMul (.int i) (.int j) H Q := ⟨i, j, rfl, rfl, c, q⟩
theorem w_div (c : 0 < j ∧ j < 1073741824) (q : Q (.int (i / j)) H) : rDiv (.int i) (.int j) H Q := ⟨i, j, rfl, rfl, c, q⟩
theorem w_mod (c : 0 < j) (q : Q (.int (i % j)) H) : rMod (.int i) (.int j) H Q := ⟨i, j, rfl, rfl, c, q⟩
theorem w_pow (c : CPow i j) (q : Q (.int (i ^ j.toNat)) H) : rPow (.int i) (.int j) H Q := ⟨i, j, rfl, rfl, c, q⟩
theorem w_shl (c : CPow i j) (q : Q (.int (i * 2 ^ j.toNat)) H) : rShl (.int i) (.int j) H Q := ⟨i, j, rfl, rfl, c, q⟩
theorem w_shr (c : 0 ≤ j) (q : Q (.int (i / 2 ^ j.toNat)) H) : rShr (.int i) (.int j) H Q := ⟨i, j, rfl, rfl, c, q⟩
theorem w_band (q : Q (.int (Builtin.bitAnd i j)) H) : rAnd (.int i) (.int j) H Q := ⟨i, j, rfl, rfl, q⟩
theorem w_bor (q : Q (.int (Builtin.bitOr i j)) H) : rOr (.int i) (.int j) H Q := ⟨i, j, rfl, rfl, q⟩
theorem w_bxor (q : Q (.int (Builtin.bitXor i j)) H) : rXor (.int i) (.int j) H Q := ⟨i, j, rfl, rfl, q⟩
theorem w_lt (q : Q (.bl (decide (i < j))) H) : rLt (.int i) (.int j) H Q := ⟨i, j, rfl, rfl, q⟩
theorem w_le (q : Q (.bl (decide (i ≤ j))) H) : rLe (.int i) (.int j) H Q := ⟨i, j, rfl, rfl, q⟩
theorem w_gt (q : Q (.bl (decide (j < i))) H) : rGt (.int i) (.int j) H Q := ⟨i, j, rfl, rfl, q⟩
theorem w_ge (q : Q (.bl (decide (j ≤ i))) H) : rGe (.int i) (.int j) H Q := ⟨i, j, rfl, rfl, q⟩
end

/-! ## built-ins by named readings -/
section
variable {X : Cx}
def rLenL (K : PySem.W.Frag) : List V → Hp → VK → Prop := fun xs H Q => ∃ p ys, xs = [.ref p] ∧ (SqL K H p ys ∨ SqT K H p ys) ∧ Q (.int ys.length) H
theorem cr_len : CallR X (.builtin "len") (rLenL X.K) := call_len_seq
def rAbs : List V → Hp → VK → Prop := fun xs H Q => ∃ i, xs = [.int i] ∧ Q (.int (if i < 0 then -i else i)) H
theorem cr_abs : CallR X (.builtin "abs") rAbs := call_abs
variable {K : PySem.W.Frag} {H : Hp} {Q : VK} {p : Addr} {xs : List V} {i : Int}
theorem w_lenL (h : SqL K H p xs) (q : Q (.int xs.length) H) : rLenL K [.ref p] H Q := ⟨p, xs, rfl, .inl h, q⟩
theorem w_lenT (h : SqT K H p xs) (q : Q (.int xs.length) H) : rLenL K [.ref p] H Q := ⟨p, xs, rfl, .inr h, q⟩
theorem w_abs (q : Q (.int (i.natAbs : Int)) H) : rAbs [.int i] H Q := ⟨i, rfl, by
  rw [show (if i < 0 then -i else i) = (i.natAbs : Int) by split <;> omega]
  exact q⟩
end

section
variable {X : Cx}
def rLenStr : List V → Hp → VK → Prop := fun xs H Q => ∃ z, xs = [.str z] ∧ z.length ≤ sizeLine ∧ Q (.int z.length) H
theorem cr_lenS : CallR X (.builtin "len") rLenStr := call_len_str
def rStr : List V → Hp → VK → Prop := fun xs H Q => ∃ i, xs = [.int i] ∧ i.natAbs.log2 < 1920 ∧ Q (.str (toString i)) H
theorem cr_str : CallR X (.type "str") rStr := call_str_int
def rIntB : List V → Hp → VK → Prop := fun xs H Q => (∃ i, xs = [.int i] ∧ Q (.int i) H) ∨ ∃ k, xs = [.bl k] ∧ Q (.int (if k then 1 else 0)) H
theorem cr_intB : CallR X (.type "int") rIntB := call_int1
def rListOf (K : PySem.W.Frag) : List V → Hp → VK → Prop := fun xs H Q => ∃ p ys, xs = [.ref p] ∧ (SqL K H p ys ∨ SqT K H p ys) ∧ ∀ l, H l = none → Q (.ref l) (upd H l (.lst ys))
theorem cr_list : CallR X (.type "list") (rListOf X.K) := call_list_of
def rTupOf (K : PySem.W.Frag) : List V → Hp → VK → Prop := fun xs H Q => ∃ p ys, xs = [.ref p] ∧ ((SqL K H p ys ∧ ∀ l, H l = none → Q (.ref l) (upd H l (.tup ys))) ∨ (SqT K H p ys ∧ Q (.ref p) H))
theorem cr_tuple : CallR X (.type "tuple") (rTupOf X.K) := call_tuple_of
variable {K : PySem.W.Frag} {H : Hp} {Q : VK} {p : Addr} {xs ys : List V} {i : Int} {σ : L2.St} {te : TE} {n : Nat}
theorem w_lenS {z : Str} (hz : z.length ≤ sizeLine) (q : Q (.int z.length) H) : rLenStr [.str z] H Q := ⟨z, rfl, hz, q⟩
theorem w_str (hz : i.natAbs.log2 < 1920) (q : Q (.str (toString i)) H) : rStr [.int i] H Q := ⟨i, rfl, hz, q⟩
theorem w_intB {b : Bool} (q : Q (.int (if b then 1 else 0)) H) : rIntB [.bl b] H Q := .inr ⟨b, rfl, q⟩
theorem w_listL (h : SqL K H p xs) (q : ∀ l H', H l = none → Ch [] H H' → H' l = some (.lst xs) → Q (.ref l) H') : rListOf K [.ref p] H Q := ⟨p, xs, rfl, .inl h, w_new q⟩
theorem w_listT (h : SqT K H p xs) (q : ∀ l H', H l = none → Ch [] H H' → H' l = some (.lst xs) → Q (.ref l) H') : rListOf K [.ref p] H Q := ⟨p, xs, rfl, .inr h, w_new q⟩
theorem w_tupL (h : SqL K H p xs) (q : ∀ l H', H l = none → Ch [] H H' → H' l = some (.tup xs) → Q (.ref l) H') : rTupOf K [.ref p] H Q := ⟨p, xs, rfl, .inl ⟨h, w_new q⟩⟩
theorem w_sum {ns : List Int} (h : SqL K H p (ns.map V.int)) (q : Q (.int ns.sum) H) : rSum K [.ref p] H Q := ⟨p, ns, rfl, h, q⟩
theorem w_all {bs : List Bool} (h : SqL K H p (bs.map V.bl)) (q : Q (.bl (bs.all id)) H) : rAll K [.ref p] H Q := ⟨p, bs, rfl, h, q⟩
theorem w_any {bs : List Bool} (h : SqL K H p (bs.map V.bl)) (q : Q (.bl (bs.any id)) H) : rAny K [.ref p] H Q := ⟨p, bs, rfl, h, q⟩
theorem w_cat {l b : Addr} (h : H l = some (.lst xs)) (h' : H b = some (.lst ys)) (hz : xs.length + ys.length ≤ sizeLine) (q : ∀ p H', H p = none → Ch [] H H' → H' p = some (.lst (xs ++ ys)) → Q (.ref p) H') : rCat (.ref l) (.ref b) H Q := ⟨l, b, xs, ys, rfl, rfl, h, h', hz, w_new q⟩
/-! ## loops -/
variable {ta : TA} {tu : TS} {tt : TT} {D : Ends} {j : Nat} {g : TG} {vs : List Nat} {R : It → Hp → Prop} {a : Addr}
/-- a range of a number, walked -/
def RngGo (xs : List V) (H : Hp) (R : It → Hp → Prop) : Prop := ∃ j : Int, xs = [.int j] ∧ -(2 ^ 62) ≤ j ∧ j < 2 ^ 62 ∧ R (Itr 0 j.toNat) H
def Rng2Go (xs : List V) (H : Hp) (R : It → Hp → Prop) : Prop := ∃ i j : Int, xs = [.int i, .int j] ∧ (-(2 ^ 62) ≤ i ∧ i < 2 ^ 62 ∧ -(2 ^ 62) ≤ j ∧ j < 2 ^ 62) ∧ R (Itr i (j - i).toNat) H
/-- a list, a tuple, walked -/
def LstGo (K : PySem.W.Frag) (x : V) (H : Hp) (R : It → Hp → Prop) : Prop := ∃ a, x = .ref a ∧ (∃ xs, SqL K H a xs) ∧ R (Itl K a) H
def TupGo (K : PySem.W.Frag) (x : V) (H : Hp) (R : It → Hp → Prop) : Prop := ∃ a, x = .ref a ∧ (∃ xs, SqT K H a xs) ∧ R (Itt K a) H
def ForGo (J : It) (g : TG) (tu : TS) (D : Ends) (σ : L2.St) (H : Hp) : Prop := ∃ W : Nat → Nat → L2.St → Hp → Prop, (∃ m, W 0 m σ H) ∧ ∀ i m σ H, W i m σ H →
    (J.stop i H ∧ D.nx σ H) ∨ (J.go i H ∧ ∃ N : L2.St → Hp → Prop, (∀ σ' H', N σ' H' → ∃ m', m' < m ∧ W (i + 1) m' σ' H') ∧ ∀ x H', J.yld i H x H' → g x σ H' fun σ2 H2 => tu { D with nx := N, ct := N, bk := D.nx } σ2 H2)
def LcGo (J : It) (g : TG) (tt : TT) (te : TE) (vs : List Nat) (σ : L2.St) (H : Hp) (Q : VK) : Prop := ∀ L, H L = none → ∃ W : Nat → Nat → Hp → Prop, (∃ m, W 0 m (upd H L (.lst []))) ∧ ∀ i m H, W i m H →
    (J.stop i H ∧ Q (.ref L) H) ∨ (J.go i H ∧ ∃ Nx : Hp → Prop, (∀ H', Nx H' → ∃ m', m' < m ∧ W (i + 1) m' H') ∧ ∀ x H', J.yld i H x H' → g x (wipe σ vs) H' fun σ2 H2 => wipe σ2 vs = wipe σ vs ∧ tt σ2 H2 fun b H3 =>
      if b = true then te σ2 H3 fun y H4 => ∃ acc, H4 L = some (.lst acc) ∧ acc.length < sizeLine ∧ Nx (upd H4 L (.lst (acc ++ [y]))) else Nx H3)
theorem w_rng1 (h : ta σ H fun vs H1 => RngGo vs H1 R) : iRng1 ta σ H R := h
theorem w_rng2 (h : ta σ H fun vs H1 => Rng2Go vs H1 R) : iRng2 ta σ H R := h
theorem w_iL (h : te σ H fun x H1 => LstGo K x H1 R) : iList K te σ H R := h
theorem w_iT (h : te σ H fun x H1 => TupGo K x H1 R) : iTup K te σ H R := h
theorem w_rngN {n : Nat} (e : i = (n : Int)) (hn : n ≤ 1000000000) (h : R (Itr 0 n) H) : RngGo [.int i] H R := by
  subst e
  exact ⟨_, rfl, by omega, by omega, h⟩
theorem w_rng2N {lo : Int} {n : Nat} (e : i = lo + (n : Int)) (h0 : -1000000000 ≤ lo) (h1 : lo ≤ 1000000000) (hn : n ≤ 1000000000) (h : R (Itr lo n) H) : Rng2Go [.int lo, .int i] H R := by
  subst e
  refine ⟨_, _, rfl, by omega, ?_⟩
  rw [show (lo + (n : Int) - lo).toNat = n by omega]
  exact h
theorem w_goL (h : SqL K H a xs) (q : R (Itl K a) H) : LstGo K (.ref a) H R := ⟨a, rfl, ⟨xs, h⟩, q⟩
theorem w_goT (h : SqT K H a xs) (q : R (Itt K a) H) : TupGo K (.ref a) H R := ⟨a, rfl, ⟨xs, h⟩, q⟩
theorem w_for {wi : TI} (h : wi σ H fun J H1 => ForGo J g tu D σ H1) : tFor wi g tu D σ H := h
theorem w_lc {wi : TI} (h : wi σ H fun J H1 => LcGo J g tt te vs σ H1 Q) : tLc wi g tt te vs σ H Q := h
/-- for name in range(n), by what holds ahead of turn i -/
theorem w_forR {n : Nat} (Pv : Nat → L2.St → Hp → Prop) (h0 : Pv 0 σ H) (hs : ∀ (i : Nat) σ' H', i < n → Pv i σ' H' → tu { D with nx := Pv (i + 1), ct := Pv (i + 1), bk := D.nx } (σ'.set j (some (.int (i : Int)))) H') (hd : ∀ σ' H', Pv n σ' H' → D.nx σ' H') :
    ForGo (Itr 0 n) (gName j) tu D σ H :=
  for_range (lo := 0) (n := n) Pv h0 (fun i σ' H' hi p => by
    show tu { D with nx := Pv (i + 1), ct := Pv (i + 1), bk := D.nx } (σ'.set j (some (.int ((0 : Int) + (i : Int))))) H'
    rw [Int.zero_add]
    exact hs i σ' H' hi p) hd
theorem w_forR2 {n : Nat} {lo : Int} (Pv : Nat → L2.St → Hp → Prop) (h0 : Pv 0 σ H) (hs : ∀ (i : Nat) σ' H', i < n → Pv i σ' H' → tu { D with nx := Pv (i + 1), ct := Pv (i + 1), bk := D.nx } (σ'.set j (some (.int (lo + (i : Int))))) H') (hd : ∀ σ' H', Pv n σ' H' → D.nx σ' H') :
    ForGo (Itr lo n) (gName j) tu D σ H := for_range (lo := lo) (n := n) Pv h0 hs hd
/-- over a tuple, a list -/
theorem w_forT (Pv : Nat → L2.St → Hp → Prop) (h0 : Pv 0 σ H) (hl : ∀ i σ' H', i ≤ xs.length → Pv i σ' H' → SqT K H' a xs)
    (hs : ∀ i x σ' H', xs[i]? = some x → Pv i σ' H' → g x σ' H' fun σ2 H2 => tu { D with nx := Pv (i + 1), ct := Pv (i + 1), bk := D.nx } σ2 H2) (hd : ∀ σ' H', Pv xs.length σ' H' → D.nx σ' H') : ForGo (Itt K a) g tu D σ H := for_tup Pv h0 hl hs hd
theorem w_forL (Pv : Nat → L2.St → Hp → Prop) (h0 : Pv 0 σ H) (hl : ∀ i σ' H', i ≤ xs.length → Pv i σ' H' → SqL K H' a xs)
    (hs : ∀ i x σ' H', xs[i]? = some x → Pv i σ' H' → g x σ' H' fun σ2 H2 => tu { D with nx := Pv (i + 1), ct := Pv (i + 1), bk := D.nx } σ2 H2) (hd : ∀ σ' H', Pv xs.length σ' H' → D.nx σ' H') : ForGo (Itl K a) g tu D σ H := for_list Pv h0 hl hs hd
/-- what is made so far -/
def Lc (Pv : Addr → Nat → List V → Hp → Prop) (L : Addr) (i : Nat) (H : Hp) : Prop := ∃ acc, H L = some (.lst acc) ∧ acc.length ≤ i ∧ Pv L i acc H
/-- an item is put behind -/
theorem w_lcput {Pv : Addr → Nat → List V → Hp → Prop} {L : Addr} {i : Nat} {acc : List V} {y : V} (h : H L = some (.lst acc)) (ha : acc.length ≤ i) (hi : i < 10000000) (k : ∀ H5, Ch [L] H H5 → H5 L = some (.lst (acc ++ [y])) → Pv L (i + 1) (acc ++ [y]) H5) :
    ∃ acc, H L = some (.lst acc) ∧ acc.length < sizeLine ∧ Lc Pv L (i + 1) (upd H L (.lst (acc ++ [y]))) :=
  ⟨acc, h, by rw [sizeLine_eq]; omega, acc ++ [y], upd_same, by rw [List.length_append, List.length_singleton]; omega, k _ (.put h) upd_same⟩
/-- a turn that gives nothing -/
theorem w_lcskip {Pv : Addr → Nat → List V → Hp → Prop} {L : Addr} {i : Nat} {acc : List V} (h : H L = some (.lst acc)) (ha : acc.length ≤ i) (k : Pv L (i + 1) acc H) : Lc Pv L (i + 1) H := ⟨acc, h, by omega, k⟩
/-- the turn of a comprehension: its test, then its element, put behind what is made so far -/
def LcTurn (Pv : Addr → Nat → List V → Hp → Prop) (tt : TT) (te : TE) (L : Addr) (i : Nat) (σ2 : L2.St) (H : Hp) : Prop := tt σ2 H fun b H3 =>
  if b = true then te σ2 H3 fun y H4 => ∃ acc, H4 L = some (.lst acc) ∧ acc.length < sizeLine ∧ Lc Pv L (i + 1) (upd H4 L (.lst (acc ++ [y]))) else Lc Pv L (i + 1) H3
theorem w_turnY {Pv : Addr → Nat → List V → Hp → Prop} {L : Addr} {i : Nat} {σ2 : L2.St} (h : te σ2 H fun y H4 => ∃ acc, H4 L = some (.lst acc) ∧ acc.length < sizeLine ∧ Lc Pv L (i + 1) (upd H4 L (.lst (acc ++ [y])))) : LcTurn Pv tYes te L i σ2 H := h
theorem w_turn {Pv : Addr → Nat → List V → Hp → Prop} {L : Addr} {i : Nat} {σ2 : L2.St} (h : tt σ2 H fun b H3 =>
  if b = true then te σ2 H3 fun y H4 => ∃ acc, H4 L = some (.lst acc) ∧ acc.length < sizeLine ∧ Lc Pv L (i + 1) (upd H4 L (.lst (acc ++ [y]))) else Lc Pv L (i + 1) H3) : LcTurn Pv tt te L i σ2 H := h
/-- a comprehension over range(n): Pv L i acc H', the list so far acc -/
theorem w_lcR {n : Nat} (Pv : Addr → Nat → List V → Hp → Prop) (h0 : ∀ L H', H L = none → Ch [] H H' → H' L = some (.lst []) → Pv L 0 [] H')
    (hw : ∀ x, wipe ((wipe σ vs).set j (some x)) vs = wipe σ vs)
    (hs : ∀ L (i : Nat) acc H', H L = none → i < n → acc.length ≤ i → H' L = some (.lst acc) → Pv L i acc H' → LcTurn Pv tt te L i ((wipe σ vs).set j (some (.int (i : Int)))) H')
    (hd : ∀ L acc H', H L = none → H' L = some (.lst acc) → Pv L n acc H' → Q (.ref L) H') :
    LcGo (Itr 0 n) (gName j) tt te vs σ H Q := fun L hL =>
  lc_range (lo := 0) (n := n) (Lc Pv L) ⟨[], upd_same, Nat.le_refl _, h0 L _ hL (.new hL) upd_same⟩ (fun i H' hi p => by
    obtain ⟨acc, h1, h2, h3⟩ := p
    have e0 : (0 : Int) + (i : Int) = (i : Int) := Int.zero_add _
    rw [e0]
    exact ⟨hw _, hs L i acc H' hL hi h2 h1 h3⟩) (fun H' p => by
    obtain ⟨acc, h1, h2, h3⟩ := p
    exact hd L acc H' hL h1 h3)
theorem w_lcR2 {n : Nat} {lo : Int} (Pv : Addr → Nat → List V → Hp → Prop) (h0 : ∀ L H', H L = none → Ch [] H H' → H' L = some (.lst []) → Pv L 0 [] H')
    (hw : ∀ x, wipe ((wipe σ vs).set j (some x)) vs = wipe σ vs)
    (hs : ∀ L (i : Nat) acc H', H L = none → i < n → acc.length ≤ i → H' L = some (.lst acc) → Pv L i acc H' → LcTurn Pv tt te L i ((wipe σ vs).set j (some (.int (lo + (i : Int))))) H')
    (hd : ∀ L acc H', H L = none → H' L = some (.lst acc) → Pv L n acc H' → Q (.ref L) H') :
    LcGo (Itr lo n) (gName j) tt te vs σ H Q := fun L hL =>
  lc_range (lo := lo) (n := n) (Lc Pv L) ⟨[], upd_same, Nat.le_refl _, h0 L _ hL (.new hL) upd_same⟩ (fun i H' hi p => by
    obtain ⟨acc, h1, h2, h3⟩ := p
    exact ⟨hw _, hs L i acc H' hL hi h2 h1 h3⟩) (fun H' p => by
    obtain ⟨acc, h1, h2, h3⟩ := p
    exact hd L acc H' hL h1 h3)
theorem w_lcT (Pv : Addr → Nat → List V → Hp → Prop) (h0 : ∀ L H', H L = none → Ch [] H H' → H' L = some (.lst []) → Pv L 0 [] H')
    (hw : ∀ x, wipe ((wipe σ vs).set j (some x)) vs = wipe σ vs) (hl : ∀ L i acc H', H L = none → H' L = some (.lst acc) → Pv L i acc H' → SqT K H' a xs)
    (hs : ∀ L (i : Nat) x acc H', H L = none → xs[i]? = some x → acc.length ≤ i → H' L = some (.lst acc) → Pv L i acc H' → LcTurn Pv tt te L i ((wipe σ vs).set j (some x)) H')
    (hd : ∀ L acc H', H L = none → H' L = some (.lst acc) → Pv L xs.length acc H' → Q (.ref L) H') :
    LcGo (Itt K a) (gName j) tt te vs σ H Q := fun L hL =>
  lc_tup (xs := xs) (Lc Pv L) ⟨[], upd_same, Nat.le_refl _, h0 L _ hL (.new hL) upd_same⟩ (fun i H' _ p => by
    obtain ⟨acc, h1, h2, h3⟩ := p
    exact hl L i acc H' hL h1 h3) (fun i x H' hi p => by
    obtain ⟨acc, h1, h2, h3⟩ := p
    exact ⟨hw _, hs L i x acc H' hL hi h2 h1 h3⟩) (fun H' p => by
    obtain ⟨acc, h1, h2, h3⟩ := p
    exact hd L acc H' hL h1 h3)
theorem w_lcL (Pv : Addr → Nat → List V → Hp → Prop) (h0 : ∀ L H', H L = none → Ch [] H H' → H' L = some (.lst []) → Pv L 0 [] H')
    (hw : ∀ x, wipe ((wipe σ vs).set j (some x)) vs = wipe σ vs) (hl : ∀ L i acc H', H L = none → H' L = some (.lst acc) → Pv L i acc H' → SqL K H' a xs)
    (hs : ∀ L (i : Nat) x acc H', H L = none → xs[i]? = some x → acc.length ≤ i → H' L = some (.lst acc) → Pv L i acc H' → LcTurn Pv tt te L i ((wipe σ vs).set j (some x)) H')
    (hd : ∀ L acc H', H L = none → H' L = some (.lst acc) → Pv L xs.length acc H' → Q (.ref L) H') :
    LcGo (Itl K a) (gName j) tt te vs σ H Q := fun L hL =>
  lc_list (xs := xs) (Lc Pv L) ⟨[], upd_same, Nat.le_refl _, h0 L _ hL (.new hL) upd_same⟩ (fun i H' _ p => by
    obtain ⟨acc, h1, h2, h3⟩ := p
    exact hl L i acc H' hL h1 h3) (fun i x H' hi p => by
    obtain ⟨acc, h1, h2, h3⟩ := p
    exact ⟨hw _, hs L i x acc H' hL hi h2 h1 h3⟩) (fun H' p => by
    obtain ⟨acc, h1, h2, h3⟩ := p
    exact hd L acc H' hL h1 h3)
/-- a local's def is called -/
theorem w_callF {P : Program} {w : World} {mg : Str → Option Value} {base : Heap} {k : Nat} {f : Addr} {sp : Sp} (h : σ[n]? = some (some (.ref f))) (A : Held P w K mg base k f sp) (q : ta σ H fun vs H1 => sp vs H1 Q E0) : tCallF P w K mg base k n ta σ H Q := ⟨f, sp, h, A, q⟩
end

/-! ## by_size, called by sorted -/
/-- the text of by_size -/
structure SizeTxt (st : Stmt) : Prop where
  args : ∃ p, defArgs st = { posonlyargs := [], args := [{ arg := "face", annotation := none, pos := p }], vararg := none, kwonlyargs := [], kw_defaults := [], kwarg := none, defaults := [] }
  body : ∃ p1 p2 p3 p4 p5 p6 n, defBody st = [.Return (some (.Tuple [.Call (.Name "len" p1) [.Name "face" p2] [] p3, .Name "face" p4] n p5)) p6]
  sc : ∃ more, defScope st = { kind := .function, names := [(PySem.Str.ofString "face", .local), (PySem.Str.ofString "len", .globalImplicit)], isGenerator := false, isCoroutine := false, more := more }
section
variable {P : Program} {w : World} {K : PySem.W.Frag} {mg mb : Str → Option Value} {f t : Addr} {fd : FuncData} {st : Stmt} {A : Around} {s : Shared} {its : List Value} {ns : List Int}
theorem size_raw (F : Fun K "by_size" "by_size" st f fd) (S : SizeTxt st) (X : K.In s.heap) (hl : s.heap.NoLimit) (hg : s.heap.Ns mainGlobals mg) (hb : s.heap.Ns builtinsNs mb) (hbb : ∀ x : Str, x ≠ "__name__" → mb x = bootBuiltins x) (hm : mg "len" = none)
    (hd : A.depth < recursionLimit) (ht : IsTup s.heap t its.toArray) (hi : IntsAre its ns) (hz : its.length ≤ 1000000) :
    wpAny (model P w) A (call (.ref f) [.ref t]) (PySem.W.KeyPure (.tuple [.int ns.length, .tuple (ns.map .int)]) s) (fun _ _ => False) s := by
  obtain ⟨oc, od, kV, doc, pm, an, cdv, ct, osl, rfl, lk, hcd⟩ := F.ex
  obtain ⟨pa, ea⟩ := S.args
  obtain ⟨p1, p2, p3, p4, p5, p6, n, eb⟩ := S.body
  obtain ⟨more, es⟩ := S.sc
  rw [ea, eb, es] at lk
  refine wpAny_call (Att.call_fn (binds := [("face", .ref t)]) X hl lk hcd hd (BindsTo.of_eq rfl) rfl (fun s1 IC => ?_) rfl rfl rfl)
  obtain ⟨h1, tk1, rfl⟩ := IC.toInCall.same
  have k1 := IC.toInCall.keep
  have hn := IC.toInCall.ns
  have hsz : (its.toArray.size : Int) < 2 ^ 63 := by
    rw [List.size_toArray]
    omega
  refine wpAny_execs_cons (wpAny_Return_some (wpAny_Tuple_spliced ?_))
  refine Calls.spliced_cons (wpAny_Call_Name_kw (Calls.Name_function_global rfl rfl (Calls.loadGlobal_builtin (hg.keeps k1) hm (hb.keeps k1) ((hbb _ (by decide)).trans PySem.boot_len) ?_)))
  refine PyProof.Rows.callWith_builtin1 (Calls.spliced_cons (wpAny_Name (wpAny_loadName_local rfl rfl hn (by rfl) (Calls.spliced_nil ?_)))) rfl rfl
  refine PyProof.Rows.len_tuple (ht.keeps k1) hsz ?_
  refine Calls.spliced_cons (wpAny_Name (wpAny_loadName_local rfl rfl hn (by rfl) (Calls.spliced_nil ⟨by show 2 ≤ sizeLine; decide, ?_⟩)))
  have e1 : ((h1.push { cls := .type "tuple", data := .seq [Value.int its.toArray.size (tk1 + 1), .ref t].toArray } : Heap).get? t).isSome = true := by
    obtain ⟨o, ho, _⟩ := ht.keeps k1
    rw [Heap.get?_push_of_some _ ho]
    rfl
  refine ⟨_, _, rfl, fun b o e => Heap.get?_push_of_some _ (k1 b o e), ?_⟩
  obtain ⟨o, ho, hc, m, hdat⟩ := ht.keeps k1
  refine Reads.tuple (as := [] ++ ([] ++ [])) (Heap.get?_push_size _ rfl) rfl rfl (.cons ?_ (.cons ?_ .nil))
  · rw [List.size_toArray, hi.length]
    exact Reads.int _ _
  · exact Reads.tuple (Heap.get?_push_of_some _ ho) hc hdat (PyProof.Rows.IntsAre.reads _ hi)
end
/-- by size, then rising -/
def faceLe (p q : List Int) : Bool := decide (p.length < q.length ∨ (p.length = q.length ∧ p ≤ q))
def sizeKey (b : Addr × List Int) : PyData := .tuple [.int b.2.length, .tuple (b.2.map .int)]
theorem eqv_ints : ∀ xs ys : List Int, PyData.eqv (.tuple (xs.map .int)) (.tuple (ys.map .int)) = decide (xs = ys) := by
  have h : ∀ xs ys : List Int, PyData.eqvAll (xs.map .int) (ys.map .int) = decide (xs = ys) := by
    intro xs
    induction xs with
    | nil =>
      intro ys
      cases ys with
      | nil => simp [PyData.eqvAll]
      | cons y ys => simp [PyData.eqvAll]
    | cons x xs ih =>
      intro ys
      cases ys with
      | nil => simp [PyData.eqvAll]
      | cons y ys =>
        simp only [List.map_cons, PyData.eqvAll, ih ys, PyData.eqv]
        by_cases h1 : x = y <;> by_cases h2 : xs = ys <;> simp [h1, h2]
  intro xs ys
  simp only [PyData.eqv, h]
theorem sizeLt (n m : Int) (xs ys : List Int) : PySem.W.dataLt (.tuple [.int n, .tuple (xs.map .int)]) (.tuple [.int m, .tuple (ys.map .int)]) = decide (n < m ∨ (n = m ∧ xs < ys)) := by
  rw [PySem.W.dataLt_pair (by simp [PySem.W.alike]) (by simp [PySem.W.alike, PySem.W.alike_ints]), PySem.W.dataLt_int, PySem.W.dataLt_tuple, eqv_ints]
  have e := PySem.W.dataLt_ints xs ys
  unfold PySem.W.rowLt at e
  rw [e]
  by_cases h1 : n = m
  · subst h1
    by_cases h2 : xs = ys
    · subst h2
      simp [PyData.eqv, List.lt_irrefl]
    · simp [PyData.eqv, h2]
  · simp [PyData.eqv, h1]
theorem sizeLe : PySem.W.dataLe false sizeKey = fun p q => faceLe p.2 q.2 := by
  funext p q
  show (!PySem.W.dataLt (sizeKey q) (sizeKey p)) = _
  unfold sizeKey faceLe
  rw [sizeLt]
  by_cases h : q.2 < p.2
  · have h' : ¬ p.2 ≤ q.2 := fun r => List.not_lt.mpr r h
    by_cases h1 : p.2.length < q.2.length
    · simp [h1]
      omega
    · by_cases h2 : p.2.length = q.2.length
      · simp [h, h', h2]
      · simp [h1, h2]
        omega
  · have h' : p.2 ≤ q.2 := List.not_lt.mp h
    by_cases h1 : p.2.length < q.2.length
    · simp [h1]
      omega
    · by_cases h2 : p.2.length = q.2.length
      · simp [h, h', h2]
      · simp [h1, h2]
        omega
/-- sorted(xs, key=by_size), xs tuples of ints -/
def rSortSz (K : PySem.W.Frag) (f : Addr) : List V → List V → Hp → VK → Prop := fun vs zs H Q => ∃ (a : Addr) (bs : List (Addr × List Int)), vs = [.ref a] ∧ zs = [.ref f] ∧ SqL K H a (bs.map fun b => .ref b.1) ∧ (∀ b ∈ bs, SqT K H b.1 (b.2.map V.int)) ∧
  bs.length ≤ 1000000 ∧ (∀ b ∈ bs, b.2.length ≤ 1000000) ∧ New H (.lst ((bs.mergeSort fun p q => faceLe p.2 q.2).map fun b => .ref b.1)) Q
section
variable {X : Cx} {f : Addr} {fd : FuncData} {st : Stmt} {k : Nat}
theorem each_refs : ∀ {bs : List (Addr × List Int)} {its : List Value}, Vals (bs.map fun b => V.ref b.1) its → PySem.W.EachIs (fun v (b : Addr × List Int) => v = .ref b.1) its bs
  | [], _, r => by
    cases r
    exact .nil
  | b :: bs, _, r => by
    cases r with
    | cons r1 r2 => exact .cons r1 (each_refs r2)
theorem refs_each : ∀ {bs : List (Addr × List Int)} {its : List Value}, PySem.W.EachIs (fun v (b : Addr × List Int) => v = .ref b.1) its bs → Vals (bs.map fun b => V.ref b.1) its
  | _, _, .nil => .nil
  | _, _, .cons r1 r2 => .cons r1 (refs_each r2)
theorem depth_size (b : Addr × List Int) : (sizeKey b).depth ≤ 3 := by
  have h := PySem.W.depth_ints b.2
  simp only [sizeKey, PyData.depth, PyData.depthAll, h]
  decide
theorem cr_sortSz (F : Fun X.K "by_size" "by_size" st f fd) (S : SizeTxt st) (hm : X.mg "len" = none) (hr : Room k X.A) : CallRK X (.builtin "sorted") [Str.ofString "key"] (rSortSz X.K f) := by
  intro pins s σ H vs zs us ws Q I r1 r2 h
  obtain ⟨a, bs, rfl, rfl, hq, ht, hz, hz2, q⟩ := h
  cases r1 with
  | cons r1 r1' =>
  cases r1'
  cases r1
  cases r2 with
  | cons r2 r2' =>
  cases r2'
  cases r2
  obtain ⟨its, rv, hl, _⟩ := I.list hq
  have hu := hr.units
  refine PySem.W.sorted_key_data (b := false) sizeKey hl.isList (each_refs rv) (PySem.W.AllAlike.of fun b b' => ?_) (PySem.W.Sortable.tuples fun b => ⟨_, _, rfl⟩) (by rw [sizeLine_eq]; omega) (fun b _ => ?_) (ksk_s1 _ _) (fun _ => ksk_l1 _ _) (fun _ => ksk_t1 _ _) (fun v b hv hb h tk kp => ?_) fun out c h' tk kp fr ho lo eo => ?_
  · simp [sizeKey, PySem.W.alike, PySem.W.alikeAll, PySem.W.alike_ints]
  · have := depth_size b
    omega
  · subst hv
    obtain ⟨ts, rt, htu, _⟩ := I.tuple (ht b hb)
    obtain ⟨mb, m1, m2⟩ := I.mod.blt
    have kb : ∀ a o, X.base.get? a = some o → h.get? a = some o := fun a o e => kp a o (I.bk a o e)
    refine size_raw (s := { s with heap := h, toks := tk }) F S (I.kIn.keeps kp) (I.nolimit.keeps kp) (I.mod.glob.keeps kb) (m1.keeps kb) m2 hm hr.depth (htu.keeps kp) (intsAre_of rt) ?_
    rw [← rt.length, List.length_map]
    exact hz2 b hb
  · rw [sizeLe] at eo
    have hf : H (s.heap.objs.size + 1) = none := I.hok.fresh (Nat.le_succ _)
    refine ⟨.ref (s.heap.objs.size + 1), upd H (s.heap.objs.size + 1) (.lst ((bs.mergeSort fun p q => faceLe p.2 q.2).map fun b => .ref b.1)), I.laid kp (Nat.le_succ _) ?_, rfl, q _ hf⟩
    refine ⟨by rw [List.length_map, List.length_mergeSort, sizeLine_eq]; omega, out, c, refs_each eo, ho⟩
end

/-! ## set(xs), xs a list of ints, as a set that may be walked and sorted -/
section
variable {P : Program} {w : World} {A : Around} {E : Value → Shared → Prop} {s : Shared}
/-- an empty set's object -/
abbrev noSet (w : World) : Obj := { cls := .type "set", dict := none, data := .set #[] 0 (.fresh 0 0 (!w.params.followText "set-order")) }
/-- set.__init__ of a new set at the heap's end, from a list of ints -/
theorem init_list {l : Addr} {items : Array Value} (ns : List Int) {B : Around} (hh : B.in1.in1.handled = none) (hl : s.heap.IsList l items) (hit : IntsAre items.toList ns) (hb : ns.length + 1 < scanBound) {R : PySem.Fin → Shared → Prop} {F' : Value → Shared → Prop}
    (h : ∀ (h' : Heap) (tk c : Nat), SetR w h' s.heap.objs.size (fun j => decide (j ∈ ns)) c → c ≤ ns.length → (∀ b o, s.heap.get? b = some o → h'.get? b = some o) → R (.done (.ret .none)) { s with heap := h', toks := tk }) :
    wpAny (model P w) B.in1 (Builtin.«set.__init__» ⟨[.ref s.heap.objs.size, .ref l], []⟩) R F' { s with heap := s.heap.push (noSet w) } := by
  have hisz : items.size = ns.length := (Array.length_toList (xs := items)).symm.trans (IntsAre.length hit)
  have hS : (s.heap.push (noSet w)).get? s.heap.objs.size = some (noSet w) := Heap.get?_push_size _ rfl
  obtain ⟨⟨ocls, odict, odata, oslots⟩, hol, hcl, nl, hdl⟩ := hl
  obtain rfl : ocls = .type "list" := hcl
  obtain rfl : odata = .seq items nl := hdl
  have hol' : (s.heap.push (noSet w)).get? l = some { cls := .type "list", dict := odict, data := .seq items nl, slots := oslots } := Heap.get?_push_of_some _ hol
  have hsls := F.sub_list_set
  have hslf := F.sub_list_frozenset
  have hne : (Value.type "list" == Value.type "dict") = false := by decide
  have hl1 : (s.heap.push (noSet w)).IsList l items := ⟨_, hol', rfl, nl, rfl⟩
  unfold Builtin.«set.__init__» noKeywords Builtin.Frozenset.updateFrom
  generalize hPI : pyIter = PI
  wp_walk
  subst hPI
  refine wpAny_pyIter_list hl1 (wpAny_bind (wpAny_runValue ?_))
  have hlS : l < s.heap.objs.size := Heap.lt_size hol
  have size1 : (s.heap.push (noSet w)).objs.size = s.heap.objs.size + 1 := Heap.size_push ..
  have apart : ∀ b, b < s.heap.objs.size → b ≠ (s.heap.push (noSet w)).objs.size := fun b hb z => by
    rw [size1] at z
    omega
  have hval : ∀ (i : Nat) (v : Value), items[i]? = some v → ∃ k t, ns[i]? = some k ∧ v = .int k t := fun i v hv => by
    have hi : i < ns.length := hisz ▸ (Array.getElem?_eq_some_iff.mp hv).1
    obtain ⟨t, e⟩ := PyProof.Rows.IntsAre.int_at hit i v (by rw [Array.getElem?_toList]; exact hv)
    exact ⟨ns[i], t, List.getElem?_eq_getElem hi, by rw [e, List.getD_eq_getElem?_getD, List.getElem?_eq_getElem hi] <;> rfl⟩
  refine set_update_ints ((Walks.list hh _ l (apart l hlS) items).toS) s.heap.objs.size (fun z => ?_) ns hisz hb hval (items.size - 0) 0 _ (by omega) (Nat.zero_le _)
    ⟨⟨_, Heap.get?_push_size _ rfl, rfl, rfl⟩, hl1.push _⟩ ⟨0, Nat.le_refl 0, setR_new_at (Heap.get?_push_of_some _ hS)⟩ fun s' c hm hc hS' => ?_
  · rcases List.mem_cons.mp z with z | z
    · rw [size1] at z
      exact absurd z (Nat.ne_of_lt (Nat.lt_succ_self _))
    · exact absurd (List.mem_singleton.mp z) (Nat.ne_of_gt hlS)
  · obtain ⟨h', g2, d', tk', os'⟩ := s'
    obtain rfl : g2 = s.gens := hm.gens
    obtain rfl : d' = s.drawn := hm.drawn
    obtain rfl : os' = s.os := hm.os
    refine wpAny_pure (wpAny_pure (h h' tk' c hS' (hisz ▸ hc) fun b o e => ?_))
    have hb0 : b < s.heap.objs.size := Heap.lt_size e
    refine hm.heap b o (fun z => ?_) (Heap.get?_push_of_some _ (Heap.get?_push_of_some _ e))
    rcases List.mem_cons.mp z with z | z
    · exact absurd z (Nat.ne_of_lt hb0)
    · exact apart b hb0 (List.mem_singleton.mp z)
/-- set(xs) -/
theorem set_of_list {l : Addr} {items : Array Value} (ns : List Int) {Q : Value → Shared → Prop} (hh : A.handled = none) (hl : s.heap.IsList l items) (hit : IntsAre items.toList ns) (hb : ns.length + 1 < scanBound)
    (h : ∀ (h' : Heap) (tk c : Nat), SetR w h' s.heap.objs.size (fun j => decide (j ∈ ns)) c → c ≤ ns.length → (∀ b o, s.heap.get? b = some o → h'.get? b = some o) → Q (.ref s.heap.objs.size) { s with heap := h', toks := tk }) :
    wpAny (model P w) A (call (.type "set") [.ref l]) Q E s := by
  obtain ⟨c, tl, hmro⟩ := F.called_set.mro
  have hmade := F.called_set.made
  have hsub := F.called_set.sub
  refine wpAny_call (codeAny_of_tree ?_)
  show wpAny _ _ (callAny (.type "set") _) _ _ _
  refine wpAny_pure ⟨Code.quiet_builtin _ (by decide +kernel), codeAny_builtin F.entry_type_call ?_⟩
  rw [Around.under_plain (weight_type_call_type "set" [.ref l] []) rfl]
  have h1 := F.called_set.notType
  have h2 := F.called_set.canCreate
  have hct := F.typeCall_set_1 (.ref l)
  repeat (any_goals (first | assumption | wp_step))
  refine codeAny_mono (code_set_led1 (.ref l) (E := E) (Q₁ := fun obj s₁ => obj = .ref s.heap.objs.size ∧ s₁ = { s with heap := s.heap.push (noSet w) }) ⟨rfl, rfl⟩) fun r s₁ hr => ?_
  match r, hr with
  | .error e, hr => exact hr
  | .ok .next, hr => exact False.elim hr
  | .ok .brk, hr => exact False.elim hr
  | .ok .cont, hr => exact False.elim hr
  | .ok (.ret obj), hr =>
    obtain ⟨rfl, rfl⟩ := hr
    have hS : (s.heap.push (noSet w)).get? s.heap.objs.size = some (noSet w) := Heap.get?_push_size _ rfl
    have hT : Shared.TypeIs { s with heap := s.heap.push (noSet w) } (.ref s.heap.objs.size) "set" := ⟨_, hS, rfl⟩
    have hli := F.called_set.init.lookup
    have hbi := F.called_set.init.bind (.ref s.heap.objs.size)
    repeat (any_goals (first | assumption | wp_step))
    refine codeAny_mono (codeAny_call_builtin (R := wants (fun r s₂ => r = .none ∧ ∃ h' tk c, s₂ = { s with heap := h', toks := tk } ∧ SetR w h' s.heap.objs.size (fun j => decide (j ∈ ns)) c ∧ c ≤ ns.length ∧ (∀ b o, s.heap.get? b = some o → h'.get? b = some o)) E)
      F.called_set.init.plain F.entry_set_init (check_set_init_1 hT (init_list ns (by simp [hh]) hl hit hb fun h' tk c a1 a2 a3 => ⟨rfl, h', tk, c, rfl, a1, a2, a3⟩))) fun r₂ s₂ hr₂ => ?_
    match r₂, hr₂ with
    | .error e, hr => exact hr
    | .ok .next, hr => exact False.elim hr
    | .ok .brk, hr => exact False.elim hr
    | .ok .cont, hr => exact False.elim hr
    | .ok (.ret r), ⟨e, h', tk, c, e2, a1, a2, a3⟩ =>
      subst e e2
      repeat (any_goals (first | assumption | wp_step))
      exact h _ _ _ a1 a2 a3
end
section
variable {X : Cx}
/-- set(xs) by values -/
def rSetI (K : PySem.W.Frag) (w : World) : List V → Hp → VK → Prop := fun vs H Q => ∃ (l : Addr) (ns : List Int), vs = [.ref l] ∧ SqL K H l (ns.map V.int) ∧ ns.length ≤ 1000 ∧ ∀ p c, c ≤ ns.length → H p = none → Q (.ref p) (upd H p (SetO w p (fun j => decide (j ∈ ns)) c))
theorem cr_setI (hc : X.calm = true) : CallR X (.type "set") (rSetI X.K X.w) := by
  intro pins s σ H vs us Q I r h
  obtain ⟨l, ns, rfl, hq, hz, q⟩ := h
  rw [Vals.ref1 r]
  obtain ⟨its, rv, hl, _⟩ := I.list hq
  refine set_of_list ns (I.ok.hd hc) hl.isList (by simpa using intsAre_of rv) (Nat.lt_of_le_of_lt (Nat.succ_le_succ hz) (by decide)) fun h' tk c a1 a2 a3 => ?_
  exact ⟨.ref s.heap.objs.size, upd H s.heap.objs.size (SetO X.w s.heap.objs.size (fun j => decide (j ∈ ns)) c), I.laid (t' := tk) a3 (Nat.le_refl _) (setO_new a1), rfl, q _ c a2 (I.hok.fresh (Nat.le_refl _))⟩
/-- sorted(set(xs)), the set made on the way -/
def rising (ns ms : List Int) : Prop := ms.Pairwise (· < ·) ∧ ∀ k, k ∈ ms ↔ k ∈ ns
variable {K : PySem.W.Frag} {H : Hp} {Q : VK} {l : Addr} {ns : List Int} {w : World}
theorem w_setI (h : SqL K H l (ns.map V.int)) (hz : ns.length ≤ 1000) (q : ∀ p c H', c ≤ ns.length → H p = none → Ch [] H H' → H' p = some (SetO w p (fun j => decide (j ∈ ns)) c) → Q (.ref p) H') : rSetI K w [.ref l] H Q :=
  ⟨l, ns, rfl, h, hz, fun p c hc hp => q p c _ hc hp (.new hp) upd_same⟩
theorem w_sortSet {p : Addr} {c : Nat} (h : H p = some (SetO w p (fun j => decide (j ∈ ns)) c)) (hc : c < 64) (q : ∀ (ms : List Int) m H', rising ns ms → ms.length = c → H m = none → Ch [] H H' → H' m = some (.lst (ms.map V.int)) → Q (.ref m) H') : rSortedSet w [.ref p] H Q :=
  ⟨p, _, c, rfl, h, hc, fun ms m h1 h2 h3 hm => q ms m _ ⟨h1, fun k => (h2 k).trans (by simp)⟩ h3 hm (.new hm) upd_same⟩
end
/-! ## tuples: which object it is does not matter -/
section
variable {K : PySem.W.Frag} {H H' : Hp} {Q : VK} {a b p : Addr} {xs ys : List V} {S : List Addr} {lo hi : Option Int} {f : Addr} {w : World}
theorem sqt_new (h : H p = some (.tup xs)) : SqT K H p xs := .inl (.inl h)
theorem w_catA (h1 : SqT K H a xs) (h2 : SqT K H b ys) (hz : xs.length + ys.length ≤ sizeLine) (q : ∀ t H', Ch [] H H' → SqT K H' t (xs ++ ys) → Q (.ref t) H') : rCatA K (.ref a) (.ref b) H Q := by
  refine ⟨a, b, xs, ys, rfl, rfl, h1, h2, hz, fun e => ?_, fun _ e => ?_, fun _ _ p hp => q p _ (.new hp) (sqt_new upd_same)⟩
  · subst e
    exact q b H .refl h2
  · subst e
    exact q a H .refl (by rw [List.append_nil]; exact h1)
theorem w_slA (h : SqT K H a xs) (q : ∀ t H', Ch [] H H' → SqT K H' t (cutV xs lo hi) → Q (.ref t) H') : rSlA K (.ref a) lo hi H Q := by
  refine ⟨a, xs, rfl, h, fun e => q a H .refl ?_, fun _ p hp => q p _ (.new hp) (sqt_new upd_same)⟩
  have e2 : cutV xs lo hi = xs := by
    unfold cutV
    rw [e.1, e.2, List.drop_zero, Nat.sub_zero, List.take_length]
  rw [e2]
  exact h
/-- a new tuple -/
theorem w_newT {n : Nat} (hz : n ≤ sizeLine) (h : ∀ p H', Ch [] H H' → SqT K H' p xs → Q (.ref p) H') : n ≤ sizeLine ∧ New H (.tup xs) Q := ⟨hz, w_new fun p H' _ c e => h p H' c (sqt_new e)⟩
theorem w_tupOf (h : SqL K H p xs) (q : ∀ t H', Ch [] H H' → SqT K H' t xs → Q (.ref t) H') : rTupOf K [.ref p] H Q := w_tupL h fun l H' _ c e => q l H' c (sqt_new e)
theorem cut_take {xs : List V} {k : Nat} (h : k ≤ xs.length) : cutV xs none (some (k : Int)) = xs.take k := by
  unfold cutV
  rw [HT.sIx_none, show HT.sIx xs.length xs.length (some (k : Int)) = min k xs.length from HT.sIx_nat _ _ k, Nat.sub_zero, List.drop_zero, Nat.min_eq_left h]
theorem cut_drop {xs : List V} {k : Nat} (h : k ≤ xs.length) : cutV xs (some (k : Int)) none = xs.drop k := by
  unfold cutV
  rw [HT.sIx_none, show HT.sIx xs.length 0 (some (k : Int)) = min k xs.length from HT.sIx_nat _ _ k, Nat.min_eq_left h]
  exact List.take_of_length_le (by rw [List.length_drop]; exact Nat.le_refl _)
theorem w_rev {n : Nat} (h : H p = some (.lst xs)) (q : ∀ H', Ch [p] H H' → H' p = some (.lst xs.reverse) → Q .non H') : rReverse (.ref p) [] H Q := ⟨p, xs, rfl, rfl, h, q _ (.put h) upd_same⟩
theorem w_ckw {r : List V → List V → Hp → VK → Prop} {t tk : TA} {σ : L2.St} (h : t σ H fun vs H1 => tk σ H1 fun zs H2 => r vs zs H2 Q) : tCKw r t tk σ H Q := h
theorem w_bm0 {T : String} {r : V → List V → Hp → VK → Prop} {te : TE} {σ : L2.St} (h : te σ H fun x H1 => tyV K T x H1 ∧ r x [] H1 Q) : tBM0 K T r te σ H Q := h

/-! ## a list of tuples of ints -/
/-- at l a list of the tuples fs -/
def LT (K : PySem.W.Frag) (H : Hp) (l : Addr) (fs : List (List Int)) : Prop := ∃ bs : List (Addr × List Int), H l = some (.lst (bs.map fun b => .ref b.1)) ∧ (∀ b ∈ bs, SqT K H b.1 (b.2.map V.int)) ∧ bs.map (·.2) = fs
theorem Ch.sqts {bs : List (Addr × List Int)} (c : Ch S H H') (h : ∀ b ∈ bs, SqT K H b.1 (b.2.map V.int)) : ∀ b ∈ bs, SqT K H' b.1 (b.2.map V.int) := fun b hb => c.sqt (h b hb)
theorem LT.keep {fs : List (List Int)} (h : LT K H a fs) (c : Ch [] H H') : LT K H' a fs := let ⟨bs, h1, h2, h3⟩ := h; ⟨bs, c.lst h1, c.sqts h2, h3⟩
theorem LT.but {fs : List (List Int)} (h : LT K H a fs) (c : Ch [p] H H') (n : a ≠ p) : LT K H' a fs := let ⟨bs, h1, h2, h3⟩ := h; ⟨bs, c.but h1 n, c.sqts h2, h3⟩
theorem dp_tup {t : Addr} {ns : List Int} (h : SqT K H t (ns.map V.int)) : Dp K H (.ref t) (.tuple (ns.map .int)) := by
  have allInts : ∀ ns : List Int, DpAll K H (ns.map V.int) (ns.map PyData.int) := fun ns => by
    induction ns with
    | nil => exact .nil
    | cons n ns ih => exact .cons (.int n) ih
  exact .tup h (allInts ns)
def encT (f : List Int) : PyData := .tuple (f.map .int)
theorem dp_refs : ∀ {bs : List (Addr × List Int)}, (∀ b ∈ bs, SqT K H b.1 (b.2.map V.int)) → DpAll K H (bs.map fun b => V.ref b.1) ((bs.map (·.2)).map encT)
  | [], _ => .nil
  | b :: bs, h => .cons (dp_tup (h b List.mem_cons_self)) (dp_refs fun x hx => h x (List.mem_cons_of_mem _ hx))
theorem LT.dp {fs : List (List Int)} (h : LT K H a fs) : Dp K H (.ref a) (.list (fs.map encT)) := by
  obtain ⟨bs, h1, h2, rfl⟩ := h
  exact .lst (SqL.of h1) (dp_refs h2)
theorem ints_small {k : Nat} {ns : List Int} (h : ∀ x ∈ ns, x.natAbs < 10 ^ k) : smallAll k (ns.map PyData.int) = true := by
  rw [smallAll_iff]
  intro x hx
  obtain ⟨n, hn, rfl⟩ := List.mem_map.mp hx
  simpa [small] using h n hn
theorem ints_cost (k : Nat) (ns : List Int) : costAll k (ns.map PyData.int) ≤ (k + 3) * ns.length := by
  have h := costAll_le (k := k) (m := k + 1) (xs := ns.map PyData.int) fun x hx => by
    obtain ⟨n, hn, rfl⟩ := List.mem_map.mp hx
    exact Nat.le_refl _
  rw [List.length_map] at h
  exact h
theorem encT_depth (f : List Int) : (encT f).depth ≤ 1 := by
  simp only [encT, PyData.depth, PySem.W.depth_ints]
  decide
theorem encT_cost (k : Nat) (f : List Int) : cost k (encT f) ≤ (k + 3) * f.length + 4 := by
  have := ints_cost k f
  show costAll k _ + 4 ≤ _
  omega
theorem depthAll_le {m : Nat} : ∀ {xs : List PyData}, (∀ x ∈ xs, x.depth ≤ m) → PyData.depthAll xs ≤ m
  | [], _ => by simp [PyData.depthAll]
  | x :: xs, h => by
    have h1 := h x List.mem_cons_self
    have h2 := depthAll_le (xs := xs) fun y hy => h y (List.mem_cons_of_mem _ hy)
    simp only [PyData.depthAll]
    omega
/-- the text of a list of faces -/
def txtF (fs : List (List Int)) : Str := (PyData.list (fs.map encT)).shown
theorem w_reprF {fs : List (List Int)} (h : LT K H a fs) (hl : fs.length ≤ 4000) (hz : ∀ f ∈ fs, f.length ≤ 40 ∧ ∀ x ∈ f, x.natAbs < 10 ^ 70) (q : Q (.str (txtF fs)) H) : rReprD K [.ref a] H Q := by
  refine ⟨a, _, 70, rfl, h.dp, ?_, by decide, ?_, ?_, q⟩
  · have := depthAll_le (m := 1) (xs := fs.map encT) fun x hx => by
      obtain ⟨f, _, rfl⟩ := List.mem_map.mp hx
      exact encT_depth f
    simp only [PyData.depth]
    omega
  · show smallAll 70 _ = true
    rw [smallAll_iff]
    intro x hx
    obtain ⟨f, hf, rfl⟩ := List.mem_map.mp hx
    exact ints_small (hz f hf).2
  · have := costAll_le (k := 70) (m := 2924) (xs := fs.map encT) fun x hx => by
      obtain ⟨f, hf, rfl⟩ := List.mem_map.mp hx
      have h1 := encT_cost 70 f
      have h2 := (hz f hf).1
      have h3 : 73 * f.length ≤ 73 * 40 := Nat.mul_le_mul_left _ h2
      omega
    rw [List.length_map] at this
    show costAll 70 _ + 4 ≤ sizeLine
    rw [sizeLine_eq]
    have : (2924 + 2) * fs.length ≤ 2926 * 4000 := Nat.mul_le_mul_left _ hl
    omega
/-- sorted by size, of such a list -/
theorem w_sortSz {bs : List (Addr × List Int)} (h : SqL K H a (bs.map fun b => .ref b.1)) (ht : ∀ b ∈ bs, SqT K H b.1 (b.2.map V.int)) (hl : bs.length ≤ 1000000) (hz : ∀ b ∈ bs, b.2.length ≤ 1000000)
    (q : ∀ l H', H l = none → Ch [] H H' → LT K H' l ((bs.map (·.2)).mergeSort faceLe) → Q (.ref l) H') : rSortSz K f [.ref a] [.ref f] H Q := by
  refine ⟨a, bs, rfl, rfl, h, ht, hl, hz, w_new fun l H' hn c e => q l H' hn c ⟨_, e, fun b hb => c.sqt (ht b (List.mem_mergeSort.mp hb)), ?_⟩⟩
  exact PySem.W.sort_maps (r := fun p q : Addr × List Int => faceLe p.2 q.2) (s := faceLe) (·.2) fun _ _ _ _ => rfl
end
/-! ## sorted of data -/
section
variable {X : Cx} {K : PySem.W.Frag} {H : Hp} {Q : VK} {a : Addr}
def rSortD (K : PySem.W.Frag) : List V → Hp → VK → Prop := fun vs H Q => ∃ (a : Addr) (bs : List (V × PyData)), vs = [.ref a] ∧ SqL K H a (bs.map (·.1)) ∧ (∀ b ∈ bs, Dp K H b.1 b.2) ∧ PySem.W.AllAlike (bs.map (·.2)) ∧ PySem.W.Sortable (bs.map (·.2)) ∧
  bs.length ≤ 1000000 ∧ (∀ b ∈ bs, b.2.depth ≤ 40) ∧ New H (.lst ((bs.mergeSort (PySem.W.dataLe false Prod.snd)).map (·.1))) Q
theorem each_vals : ∀ {bs : List (V × PyData)} {its : List Value}, Vals (bs.map (·.1)) its → PySem.W.EachIs (fun v (b : V × PyData) => RelV b.1 v) its bs
  | [], _, r => by
    cases r
    exact .nil
  | b :: bs, _, r => by
    cases r with
    | cons r1 r2 => exact .cons r1 (each_vals r2)
theorem vals_each : ∀ {bs : List (V × PyData)} {its : List Value}, PySem.W.EachIs (fun v (b : V × PyData) => RelV b.1 v) its bs → Vals (bs.map (·.1)) its
  | _, _, .nil => .nil
  | _, _, .cons r1 r2 => .cons r1 (vals_each r2)
theorem each_reads {pins : List (Addr × Obj)} {σ : L2.St} {H : Hp} {s : Shared} (I : Inv X pins σ H s) : ∀ {bs : List (V × PyData)} {its : List Value}, (∀ b ∈ bs, Dp X.K H b.1 b.2) → PySem.W.EachIs (fun v (b : V × PyData) => RelV b.1 v) its bs →
    PySem.W.EachIs (fun v (b : V × PyData) => ∃ as, Reads s.heap v b.2 as) its bs
  | _, _, _, .nil => .nil
  | b :: _, _, h, .cons r1 r2 => .cons (Dp.reads I b.2 _ _ (h b List.mem_cons_self) r1) (each_reads I (fun x hx => h x (List.mem_cons_of_mem _ hx)) r2)
theorem cr_sortD (hu : X.A.units + 64 < cLine) : CallR X (.builtin "sorted") (rSortD X.K) := by
  intro pins s σ H vs us Q I r h
  obtain ⟨a, bs, rfl, hq, hd, hal, hso, hz, hdp, q⟩ := h
  rw [Vals.ref1 r]
  obtain ⟨its, rv, hl, _⟩ := I.list hq
  have e := each_vals rv
  refine PySem.W.sorted_data (enc := Prod.snd) hl.isList e (each_reads I hd e) hal hso (by rw [sizeLine_eq]; omega) (fun b hb => by have := hdp b hb; omega) fun out lo eo => ?_
  have hf : H (s.heap.objs.size + 1) = none := I.hok.fresh (Nat.le_succ _)
  refine ⟨.ref (s.heap.objs.size + 1), _, I.laid (t' := s.toks) (fun b o eb => sortedAll_old eb) (Nat.le_succ _) ?_, rfl, q _ hf⟩
  obtain ⟨c, hc⟩ := sortedAll_at s.heap its out.toArray
  exact ⟨by rw [List.length_map, List.length_mergeSort, sizeLine_eq]; omega, out, c, vals_each eo, hc⟩
end
local macro_rules | `(tactic| walk_at "sq") => `(tactic| first | assumption | exact SqL.of (by assumption) | exact Fz.sql (by assumption))
local macro_rules | `(tactic| walk_at "num") => `(tactic| first | decide | omega | (constructor <;> first | decide | omega) | (refine Or.inl ⟨?_, ?_⟩ <;> first | decide | omega) | (refine Or.inr ⟨?_, ?_⟩ <;> first | decide | omega) | (refine ⟨?_, ?_, ?_⟩ <;> first | decide | omega))
local macro_rules | `(tactic| walk_at "rd1") => `(tactic| first
  | with_reducible refine w_seq ?_
  | with_reducible refine w_asg ?_
  | with_reducible refine w_if ?_
  | with_reducible refine w_ret ?_
  | with_reducible refine w_drop ?_
  | with_reducible refine w_next ?_
  | with_reducible refine w_op ?_
  | with_reducible refine w_un ?_
  | with_reducible refine w_var0 ?_
  | with_reducible refine w_varS ?_
  | with_reducible refine w_c ?_
  | with_reducible refine w_add ?_
  | with_reducible refine w_subt ?_
  | ((with_reducible refine w_mul ?_ ?_); · walk_at "num")
  | ((with_reducible refine w_div ?_ ?_); · walk_at "num")
  | ((with_reducible refine w_mod ?_ ?_); · walk_at "num")
  | ((with_reducible refine w_pow ?_ ?_); · walk_at "num")
  | with_reducible refine w_lt ?_
  | with_reducible refine w_le ?_
  | with_reducible refine w_gt ?_
  | with_reducible refine w_ge ?_
  | with_reducible refine w_eqI ?_
  | with_reducible refine w_neI ?_
  | with_reducible refine w_U ?_
  | with_reducible refine w_test ?_
  | with_reducible refine w_B ?_
  | with_reducible refine w_bl ?_
  | with_reducible refine w_int ?_
  | with_reducible refine w_and ?_
  | with_reducible refine w_or ?_
  | with_reducible refine w_not ?_
  | with_reducible refine w_notV ?_
  | with_reducible refine w_andV ?_
  | with_reducible refine w_orV ?_
  | with_reducible refine w_ifE ?_
  | with_reducible refine iteF ?_
  | with_reducible refine iteT ?_
  | with_reducible refine iteNT ?_
  | with_reducible refine iteNF ?_
  | with_reducible refine w_sub ?_
  | with_reducible refine w_gcons ?_
  | with_reducible refine w_gnil ?_
  | ((with_reducible refine w_unl (xs := ?xs) ?h ?hl ?_); (case h => walk_at "sq"); (case hl => rfl))
  | with_reducible refine w_nilA ?_
  | with_reducible refine w_consA ?_
  | with_reducible refine w_cb ?_
  | with_reducible refine w_call ?_
  | with_reducible refine w_abs ?_
  | with_reducible refine w_intB ?_
  | with_reducible refine w_lst ?_
  | with_reducible refine w_tup ?_
  | with_reducible refine w_sl ?_
  | with_reducible refine w_part ?_
  | with_reducible refine w_noPart ?_
  | with_reducible refine w_bm ?_
  | with_reducible refine w_bm0 ?_
  | with_reducible refine w_ckw ?_
  | ((with_reducible refine w_shl ?_ ?_); · walk_at "num")
  | ((with_reducible refine w_shr ?_ ?_); · walk_at "num")
  | with_reducible refine w_band ?_
  | ((with_reducible refine w_lenT (xs := ?xs) ?h ?_); (case h => assumption))
  | ((with_reducible refine w_ixT (xs := ?xs) (v := ?v) ?h ?ha ?_); (case h => assumption); (case ha => rfl))
  | ((with_reducible refine w_gtup (xs := ?xs) ?h ?hl ?_); (case h => assumption); (case hl => rfl))
  | with_reducible refine w_for ?_
  | with_reducible refine w_lc ?_
  | with_reducible refine w_rng1 ?_
  | with_reducible refine w_rng2 ?_
  | with_reducible refine w_iL ?_
  | with_reducible refine w_iT ?_
  | with_reducible refine w_turnY ?_
  | with_reducible refine w_turn ?_
  | ((with_reducible refine w_name ?_); dsimp only [List.set_cons_zero, List.set_cons_succ])
  | ((with_reducible refine w_lenL (xs := ?xs) ?h ?_); (case h => walk_at "sq"))
  | ((with_reducible refine w_ixL (xs := ?xs) (v := ?v) ?h ?ha ?_); (case h => walk_at "sq"); (case ha => rfl))
  | ((with_reducible refine w_tyL (xs := ?xs) ?h ?_); (case h => assumption))
  )
local macro_rules | `(tactic| walk_at "rd") => `(tactic| repeat walk_at "rd1")

/-- the pen: the script, a place, a rest -/
def Pen (K : PySem.W.Frag) (H : Hp) (p : Addr) : Prop := ∃ (sc : Addr) (ns : List Int) (at' gr : Int), H p = some (.lst [.ref sc, .int at', .int gr]) ∧ Fz K H sc (ns.map V.int) ∧ 0 ≤ at' ∧ 0 ≤ gr
theorem Pen.keep {K : PySem.W.Frag} {H H' : Hp} {p : Addr} (h : Pen K H p) (c : Ch [] H H') : Pen K H' p :=
  let ⟨sc, ns, a, g, h1, h2, h3⟩ := h
  ⟨sc, ns, a, g, c.lst h1, c.fz h2, h3⟩
theorem Pen.but {K : PySem.W.Frag} {H H' : Hp} {p q : Addr} (h : Pen K H p) (c : Ch [q] H H') (n : p ≠ q) : Pen K H' p :=
  let ⟨sc, ns, a, g, h1, h2, h3⟩ := h
  ⟨sc, ns, a, g, c.but h1 n, c.fz h2, h3⟩
theorem Pen.ne {K : PySem.W.Frag} {H : Hp} {p q : Addr} (h : Pen K H p) (n : H q = none) : p ≠ q :=
  let ⟨_, _, _, _, h1, _⟩ := h
  ne_new h1 n
theorem free_pen {K : PySem.W.Frag} {H H' : Hp} {p l : Addr} (c : Ch [p] H H') (hp : Pen K H' p) (h : H' l = none) : H l = none := by
  cases q : H l with
  | none => rfl
  | some o =>
    by_cases e : l = p
    · exact absurd e (Ne.symm (hp.ne h))
    · rw [c.but q e] at h
      cases h
def sp_ldraw (K : PySem.W.Frag) : Sp := fun vs H Q _ => ∃ (p : Addr) (m : Int), vs = [.ref p, .int m] ∧ Pen K H p ∧ 0 < m ∧ m < 1073741824 ∧ ∀ r H', 0 ≤ r → r < m → Ch [p] H H' → Pen K H' p → Q (.int r) H'
def t_ldraw (K : PySem.W.Frag) : TS :=
    (tSeq (tIfS (tTest (tOp rGt (tOp (rIxL K) (tVar 0) (tC (.int 2))) (tC (.int 0)))) (tSeq (tAsg (tOp rMod (tOp (rIxL K) (tVar 0) (tC (.int 2))) (tVar 1)) (gName 2))
    (tSeq (tAsg (tOp rDiv (tOp (rIxL K) (tVar 0) (tC (.int 2))) (tVar 1)) (gSub (tVar 0) (tC (.int 2)) rSetL))
    (tRet (tVar 2)))) tNext)
    (tSeq (tAsg (tSl (rSlL K) (tVar 0) tNoPart (tPart (tC (.int 2)))) (gUnl K 2 (gCons (gName 3) (gCons (gName 4) gNil))))
    (tSeq (tAsg (tOp rAdd (tVar 4) (tC (.int 1))) (gSub (tVar 0) (tC (.int 1)) rSetL))
    (tSeq (tAsg (tC (.int 7)) (gName 5))
    (tCut (tIfS (tTest (tOp rGt (tCB (rLenL K) (tCons (tVar 3) tNil)) (tC (.int 0)))) (tAsg (tOp (rIxL K) (tVar 3) (tOp rMod (tVar 4) (tCB (rLenL K) (tCons (tVar 3) tNil)))) (gName 5)) tNext)
    (tSeq (tIfS (tAnd (tTest (tOp rLt (tVar 4) (tCB (rLenL K) (tCons (tVar 3) tNil)))) (tTest (tOp rGe (tCB rAbs (tCons (tVar 5) tNil)) (tOp rPow (tC (.int 10)) (tC (.int 18)))))) (tSeq (tAsg (tOp rDiv (tCB rAbs (tCons (tVar 5) tNil)) (tVar 1)) (gSub (tVar 0) (tC (.int 2)) rSetL))
    (tRet (tOp rMod (tCB rAbs (tCons (tVar 5) tNil)) (tVar 1)))) tNext)
    (tSeq (tAsg (tOp rMod (tOp rMul (tOp rAdd (tOp rAdd (tOp rMod (tVar 5) (tC (.int 2147483629))) (tOp rMul (tC (.int 50021)) (tVar 4))) (tC (.int 11))) (tC (.int 48271))) (tC (.int 2147483647))) (gName 6))
    (tSeq (tAsg (tOp rMod (tOp rAdd (tOp rAdd (tOp rMul (tVar 6) (tVar 6)) (tOp rMul (tC (.int 69621)) (tVar 6))) (tOp rMul (tC (.int 13)) (tVar 4))) (tC (.int 2147483587))) (gName 7))
    (tRet (tOp rMod (tOp rDiv (tOp rMod (tOp rMul (tVar 7) (tOp rAdd (tOp rMod (tVar 7) (tC (.int 65521))) (tC (.int 3)))) (tC (.int 2147483579))) (tC (.int 64))) (tVar 1)))))))))))

theorem len_ldraw (K : PySem.W.Frag) : ∀ vs H Q E, sp_ldraw K vs H Q E → vs.length = 2 := by
  rintro vs H Q E ⟨p, m, rfl, _⟩
  rfl
theorem rd_ldraw {K : PySem.W.Frag} {H : Hp} {vs : List V} {Q : VK} {E : XK} {N : List Str} (h : sp_ldraw K vs H Q E) (hN : N.length = 8 := by rfl) : t_ldraw K { nx := fun _ H' => Q .non H', rt := Q } (start N vs) H := by
  obtain ⟨p, m, rfl, ⟨scr, ns, at', gr, hp, hs, h0, h1⟩, m0, m1, k⟩ := h
  refine w_start (σ := [some (.ref p), some (.int m), none, none, none, none, none, none]) (by simp [L2.start, hN]) ?_
  unfold t_ldraw
  walk_at "rd"
  refine w_ite (fun hg => ?_) (fun hg => ?_)
  · walk_at "rd"
    refine w_setL hp rfl fun H1 c1 e1 => ?_
    walk_at "rd"
    exact k _ _ (Int.emod_nonneg _ (by omega)) (Int.emod_lt_of_pos _ m0) c1 ⟨scr, ns, at', gr / m, e1, c1.fz hs, h0, Int.ediv_nonneg h1 (by omega)⟩
  · walk_at "rd"
    refine w_slL (SqL.of hp) fun l H1 hl c1 e1 => ?_
    replace e1 : H1 l = some (.lst [.ref scr, .int at']) := e1
    have hp1 := c1.lst hp
    walk_at "rd"
    refine w_setL hp1 rfl fun H2 c2 e2 => ?_
    replace e2 : H2 p = some (.lst [.ref scr, .int (at' + 1), .int gr]) := e2
    have hs2 := c2.fz (c1.fz hs)
    have c12 : Ch [p] H H2 := c1.wide.trans c2
    walk_at "rd"
    refine w_cut (fun σ' H' => H' = H2 ∧ ∃ c : Int, σ' = [some (.ref p), some (.int m), none, some (.ref scr), some (.int at'), some (.int c), none, none]) ?_ ?_
    · walk_at "rd"
      refine w_ite (fun hn => ?_) (fun hn => ?_)
      · walk_at "rd"
        rw [List.length_map] at hn ⊢
        refine w_ixLI hs2.sql (Int.emod_nonneg _ (by omega)) (Int.emod_lt_of_pos _ hn) ?_
        exact ⟨rfl, _, rfl⟩
      · exact ⟨rfl, 7, rfl⟩
    · rintro σ' H' ⟨rfl, c, rfl⟩
      have pen : ∀ g, 0 ≤ g → ∀ H3, H3 p = some (.lst [.ref scr, .int (at' + 1), .int g]) → Ch [p] H' H3 → Pen K H3 p := fun g g0 H3 e3 c3 => ⟨scr, ns, at' + 1, g, e3, c3.fz hs2, by omega, g0⟩
      have last : ∀ r : Int, 0 ≤ r → r < m → Q (.int r) H' := fun r r0 r1 => k _ _ r0 r1 c12 (pen gr h1 H' e2 .refl)
      walk_at "rd"
      refine w_ite (fun hn => ?_) (fun hn => ?_)
      · walk_at "rd"
        refine w_ite (fun hc => ?_) (fun hc => ?_)
        · walk_at "rd"
          refine w_setL e2 rfl fun H3 c3 e3 => ?_
          walk_at "rd"
          exact k _ _ (Int.emod_nonneg _ (by omega)) (Int.emod_lt_of_pos _ m0) (c12.trans c3) (pen _ (Int.ediv_nonneg (by omega) (by omega)) H3 e3 c3)
        · walk_at "rd"
          exact last _ (Int.emod_nonneg _ (by omega)) (Int.emod_lt_of_pos _ m0)
      · walk_at "rd"
        exact last _ (Int.emod_nonneg _ (by omega)) (Int.emod_lt_of_pos _ m0)
def sp_lwide (K : PySem.W.Frag) : Sp := fun vs H Q _ => ∃ (p : Addr) (m : Int), vs = [.ref p, .int m] ∧ Pen K H p ∧ 0 < m ∧ m.natAbs < 10 ^ 100 ∧ ∀ r H', 0 ≤ r → r < m → Ch [p] H H' → Pen K H' p → Q (.int r) H'
def t_lwide (K : PySem.W.Frag) : TS :=
    (tSeq (tAsg (tC (.int 0)) (gName 2))
    (tSeq (tFor (iRng1 (tCons (tOp rAdd (tOp rDiv (tCB rLenStr (tCons (tCB rStr (tCons (tVar 1) tNil)) tNil)) (tC (.int 6))) (tC (.int 1))) tNil)) (gName 3)
    (tAsg (tOp rAdd (tOp rMul (tVar 2) (tOp rPow (tC (.int 10)) (tC (.int 6)))) (tCall (sp_ldraw K) [] E0 (tCons (tVar 0) (tCons (tOp rPow (tC (.int 10)) (tC (.int 6))) tNil)))) (gName 2)))
    (tRet (tOp rMod (tVar 2) (tVar 1)))))

theorem len_lwide (K : PySem.W.Frag) : ∀ vs H Q E, sp_lwide K vs H Q E → vs.length = 2 := by
  rintro vs H Q E ⟨p, m, rfl, _⟩
  rfl
theorem rd_lwide {K : PySem.W.Frag} {H : Hp} {vs : List V} {Q : VK} {E : XK} {N : List Str} (h : sp_lwide K vs H Q E) (hN : N.length = 4 := by rfl) : t_lwide K { nx := fun _ H' => Q .non H', rt := Q } (start N vs) H := by
  obtain ⟨p, m, rfl, hp, m0, m1, k⟩ := h
  refine w_start (σ := [some (.ref p), some (.int m), none, none]) (by simp [L2.start, hN]) ?_
  unfold t_lwide
  have hl : (Str.ofString (toString m)).length ≤ 101 := int_le (by decide) m1
  walk_at "rd"
  refine w_str (log_small (by decide) m1) ?_
  walk_at "rd"
  refine w_lenS (by rw [sizeLine_eq]; omega) ?_
  walk_at "rd"
  refine w_rngN (n := (Str.ofString (toString m)).length / 6 + 1) (by omega) (by omega) ?_
  refine w_forR (fun i σ' H' => Ch [p] H H' ∧ Pen K H' p ∧ ∃ (x : Int) (o : Option V), 0 ≤ x ∧ σ' = [some (.ref p), some (.int m), some (.int x), o]) ⟨.refl, hp, 0, none, by decide, rfl⟩ ?_ ?_
  · rintro i σ' H' hi ⟨c, hp, x, o, h0, rfl⟩
    dsimp only [List.set_cons_zero, List.set_cons_succ]
    walk_at "rd"
    refine ⟨p, _, rfl, hp, by decide, by decide, fun r H2 r0 r1 c2 hp2 => ?_⟩
    walk_at "rd"
    refine ⟨c.trans c2, hp2, _, _, ?_, rfl⟩
    have := Int.mul_nonneg h0 (show (0 : Int) ≤ 10 ^ (Int.toNat 6) by decide)
    omega
  · rintro σ' H' ⟨c, hp, x, o, h0, rfl⟩
    walk_at "rd"
    exact k _ _ (Int.emod_nonneg _ (by omega)) (Int.emod_lt_of_pos _ m0) c hp
/-- a comprehension of drawn numbers -/
theorem drawn {K : PySem.W.Frag} {H : Hp} {Q : VK} {p : Addr} {n j : Nat} {te : TE} {vs : List Nat} {σ : L2.St} {B : Nat} (hp : Pen K H p) (hw : ∀ x, wipe ((wipe σ vs).set j (some x)) vs = wipe σ vs) (hn : n ≤ 1000000)
    (ht : ∀ (i : Nat) H1 (Q : VK), i < n → Ch [p] H H1 → Pen K H1 p → (∀ r H2, r.natAbs ≤ B → Ch [p] H1 H2 → Pen K H2 p → Q (.int r) H2) → te ((wipe σ vs).set j (some (.int (i : Int)))) H1 Q)
    (k : ∀ l (ns : List Int) H', H l = none → ns.length = n → (∀ x ∈ ns, x.natAbs ≤ B) → Ch [p] H H' → Pen K H' p → H' l = some (.lst (ns.map V.int)) → Q (.ref l) H') :
    LcGo (Itr 0 n) (gName j) tYes te vs σ H Q := by
  refine w_lcR (fun L i acc H' => Ch [p] H H' ∧ Pen K H' p ∧ ∃ ns : List Int, ns.length = i ∧ (∀ x ∈ ns, x.natAbs ≤ B) ∧ acc = ns.map V.int) ?_ hw ?_ ?_
  · intro L H' hL c e
    exact ⟨c.wide, hp.keep c, [], rfl, (fun _ h => nomatch h), rfl⟩
  · rintro L i acc H' hL hi ha e ⟨c, hp', ns, e1, e2, rfl⟩
    have nLp : L ≠ p := Ne.symm (hp.ne hL)
    refine w_turnY (ht i H' _ hi c hp' fun r H2 hr c2 hp2 => w_lcput (c2.but e nLp) ha (by omega) fun H5 c5 e5 => ?_)
    refine ⟨Ch.old (c.trans c2) hL c5, hp2.but c5 (Ne.symm nLp), ns ++ [r], by simp [e1], fun x hx => ?_, by simp⟩
    rcases List.mem_append.mp hx with h | h
    · exact e2 x h
    · rw [List.mem_singleton.mp h]
      exact hr
  · rintro L acc H' hL e ⟨c, hp', ns, e1, e2, rfl⟩
    exact k L ns H' hL e1 e2 c hp' e
/-- all choices of the first k -/
def subs (ns : List Int) : Nat → List (List Int)
  | 0 => [[]]
  | k + 1 => subs ns k ++ (subs ns k).map (· ++ [ns.getD k 0])
/-- the choice of the first k by bits -/
def sel (ns : List Int) (m : Nat) : Nat → List Int
  | 0 => []
  | k + 1 => if m / 2 ^ k % 2 = 1 then sel ns m k ++ [ns.getD k 0] else sel ns m k
theorem subs_len (ns : List Int) : ∀ k, (subs ns k).length = 2 ^ k
  | 0 => rfl
  | k + 1 => by
    rw [subs, List.length_append, List.length_map, subs_len ns k, Nat.pow_succ]
    omega
theorem sel_high (ns : List Int) (m k : Nat) : ∀ j, j ≤ k → sel ns (m + 2 ^ k) j = sel ns m j
  | 0, _ => rfl
  | j + 1, h => by
    have e : (m + 2 ^ k) / 2 ^ j % 2 = m / 2 ^ j % 2 := by
      obtain ⟨d, rfl⟩ : ∃ d, k = j + 1 + d := ⟨k - (j + 1), by omega⟩
      rw [show (2 : Nat) ^ (j + 1 + d) = 2 ^ j * (2 * 2 ^ d) by rw [Nat.pow_add, Nat.pow_succ, Nat.mul_assoc], Nat.add_mul_div_left _ _ (Nat.two_pow_pos j), Nat.add_mul_mod_self_left]
    rw [sel, sel, e, sel_high ns m k j (by omega)]
theorem sel_all (ns : List Int) : ∀ k, (List.range (2 ^ k)).map (fun m => sel ns m k) = subs ns k
  | 0 => rfl
  | k + 1 => by
    rw [show 2 ^ (k + 1) = 2 ^ k + 2 ^ k by rw [Nat.pow_succ]; omega, List.range_add, List.map_append, List.map_map, subs, ← sel_all ns k, List.map_map]
    congr 1
    · refine List.map_congr_left fun m hm => ?_
      have hm := List.mem_range.mp hm
      rw [sel, Nat.div_eq_of_lt hm, if_neg (by decide)]
    · refine List.map_congr_left fun m hm => ?_
      have hm := List.mem_range.mp hm
      show sel ns (2 ^ k + m) (k + 1) = sel ns m k ++ [ns.getD k 0]
      rw [Nat.add_comm, sel, Nat.add_div_right _ (Nat.two_pow_pos k), Nat.div_eq_of_lt hm, if_pos (by decide), sel_high ns m k k (Nat.le_refl _)]
theorem subs_mem {ns : List Int} : ∀ {k : Nat} {f : List Int}, k ≤ ns.length → f ∈ subs ns k → f.length ≤ k ∧ ∀ x ∈ f, x ∈ ns
  | 0, f, _, h => by
    simp only [subs, List.mem_singleton] at h
    subst h
    exact ⟨Nat.le_refl _, fun _ z => nomatch z⟩
  | k + 1, f, hk, h => by
    simp only [subs, List.mem_append, List.mem_map] at h
    rcases h with h | ⟨g, h, rfl⟩
    · have := subs_mem (k := k) (by omega) h
      exact ⟨by omega, this.2⟩
    · have := subs_mem (k := k) (by omega) h
      refine ⟨by rw [List.length_append, List.length_singleton]; omega, fun x hx => ?_⟩
      rcases List.mem_append.mp hx with h | h
      · exact this.2 x h
      · rw [List.mem_singleton.mp h, List.getD_eq_getElem?_getD, List.getElem?_eq_getElem (by omega)]
        exact List.getElem_mem _
/-- a corner left out, by its place and by itself -/
theorem left_out : ∀ {ns : List Int} (k : Nat), ns.Pairwise (· < ·) → (h : k < ns.length) → ns.filter (fun x => decide (x ≠ ns.getD k 0)) = ns.take k ++ ns.drop (k + 1)
  | x :: ns, 0, hp, h => by
    have h1 := List.pairwise_cons.mp hp
    simp only [List.getD_cons_zero, List.take_zero, List.nil_append, List.drop_succ_cons, List.drop_zero]
    rw [List.filter_cons_of_neg (by simp), List.filter_eq_self.mpr]
    intro y hy
    have := h1.1 y hy
    exact decide_eq_true (by omega)
  | x :: ns, k + 1, hp, h => by
    have h1 := List.pairwise_cons.mp hp
    have h2 : k < ns.length := by simpa using h
    simp only [List.getD_cons_succ, List.take_succ_cons, List.drop_succ_cons, List.cons_append]
    have h3 := h1.1 (ns.getD k 0) (by rw [List.getD_eq_getElem?_getD, List.getElem?_eq_getElem h2]; exact List.getElem_mem _)
    rw [List.filter_cons_of_pos (p := fun x => decide (x ≠ ns.getD k 0)) (decide_eq_true (by omega)), left_out k h1.2 h2]

/-! ### comprehensions that make lists of int tuples -/
section
variable {K : PySem.W.Frag} {H H1 : Hp} {Q : VK} {a L : Addr} {xs : List V} {j n : Nat} {te : TE} {vs : List Nat} {σ : L2.St} {F : Nat → List Int} {i : Nat} {acc : List V}
def Made (K : PySem.W.Frag) (H : Hp) (F : Nat → List Int) (_ : Addr) (i : Nat) (acc : List V) (H' : Hp) : Prop := Ch [] H H' ∧ ∃ cs : List (Addr × List Int), acc = cs.map (fun c => V.ref c.1) ∧ (∀ c ∈ cs, SqT K H' c.1 (c.2.map V.int)) ∧ cs.map (·.2) = (List.range i).map F
theorem made_none (c : Ch [] H H1) : Made K H F L 0 [] H1 := ⟨c, [], rfl, (fun _ h => nomatch h), rfl⟩
theorem made_turn (hL : H L = none) (ha : acc.length ≤ i) (hi : i < 10000000) (e : H1 L = some (.lst acc)) (m : Made K H F L i acc H1)
    (ht : ∀ (Q : VK), (∀ t H2, Ch [] H1 H2 → SqT K H2 t ((F i).map V.int) → Q (.ref t) H2) → te σ H1 Q) : LcTurn (Made K H F) tYes te L i σ H1 := by
  obtain ⟨c, cs, rfl, h1, h2⟩ := m
  refine w_turnY (ht _ fun t H2 c2 e2 => w_lcput (c2.lst e) ha hi fun H5 c5 e5 => ?_)
  refine ⟨Ch.old (c.trans c2) hL c5, cs ++ [(t, F i)], by rw [List.map_append]; rfl, fun b hb => ?_, by rw [List.map_append, h2, List.range_succ, List.map_append]; rfl⟩
  rcases List.mem_append.mp hb with h | h
  · exact c5.sqt (c2.sqt (h1 b h))
  · rw [List.mem_singleton.mp h]
    exact c5.sqt e2
theorem made_end (e : H1 L = some (.lst acc)) (m : Made K H F L i acc H1) : LT K H1 L ((List.range i).map F) := by
  obtain ⟨c, cs, rfl, h1, h2⟩ := m
  exact ⟨cs, e, h1, h2⟩
theorem w_lcRT (F : Nat → List Int) (hw : ∀ x, wipe ((wipe σ vs).set j (some x)) vs = wipe σ vs) (hn : n ≤ 10000000)
    (ht : ∀ (i : Nat) H1 (Q : VK), i < n → Ch [] H H1 → (∀ t H2, Ch [] H1 H2 → SqT K H2 t ((F i).map V.int) → Q (.ref t) H2) → te ((wipe σ vs).set j (some (.int (i : Int)))) H1 Q)
    (k : ∀ l H', H l = none → Ch [] H H' → LT K H' l ((List.range n).map F) → Q (.ref l) H') : LcGo (Itr 0 n) (gName j) tYes te vs σ H Q :=
  w_lcR (Made K H F) (fun _ _ _ c _ => made_none c) hw (fun L i acc H' hL hi ha e m => made_turn hL ha (by omega) e m fun Q q => ht i H' Q hi m.1 q) (fun L acc H' hL e m => k L H' hL m.1 (made_end e m))
theorem w_lcTT (F : Nat → List Int) (hs : SqT K H a xs) (hw : ∀ x, wipe ((wipe σ vs).set j (some x)) vs = wipe σ vs) (hn : xs.length ≤ 10000000)
    (ht : ∀ (i : Nat) x H1 (Q : VK), xs[i]? = some x → Ch [] H H1 → (∀ t H2, Ch [] H1 H2 → SqT K H2 t ((F i).map V.int) → Q (.ref t) H2) → te ((wipe σ vs).set j (some x)) H1 Q)
    (k : ∀ l H', H l = none → Ch [] H H' → LT K H' l ((List.range xs.length).map F) → Q (.ref l) H') : LcGo (Itt K a) (gName j) tYes te vs σ H Q :=
  w_lcT (Made K H F) (fun _ _ _ c _ => made_none c) hw (fun L i acc H' hL e m => m.1.sqt hs) (fun L i x acc H' hL hx ha e m => made_turn hL ha (by have := (List.getElem?_eq_some_iff.mp hx).1; omega) e m fun Q q => ht i x H' Q hx m.1 q) (fun L acc H' hL e m => k L H' hL m.1 (made_end e m))
theorem w_lcLT (F : Nat → List Int) (hs : SqL K H a xs) (hw : ∀ x, wipe ((wipe σ vs).set j (some x)) vs = wipe σ vs) (hn : xs.length ≤ 10000000)
    (ht : ∀ (i : Nat) x H1 (Q : VK), xs[i]? = some x → Ch [] H H1 → (∀ t H2, Ch [] H1 H2 → SqT K H2 t ((F i).map V.int) → Q (.ref t) H2) → te ((wipe σ vs).set j (some x)) H1 Q)
    (k : ∀ l H', H l = none → Ch [] H H' → LT K H' l ((List.range xs.length).map F) → Q (.ref l) H') : LcGo (Itl K a) (gName j) tYes te vs σ H Q :=
  w_lcL (Made K H F) (fun _ _ _ c _ => made_none c) hw (fun L i acc H' hL e m => m.1.sql hs) (fun L i x acc H' hL hx ha e m => made_turn hL ha (by have := (List.getElem?_eq_some_iff.mp hx).1; omega) e m fun Q q => ht i x H' Q hx m.1 q) (fun L acc H' hL e m => k L H' hL m.1 (made_end e m))
end
theorem int_at {ns : List Int} {i : Nat} {x : V} (h : (ns.map V.int)[i]? = some x) : i < ns.length ∧ x = .int (ns.getD i 0) := by
  rw [List.getElem?_map] at h
  obtain ⟨n, h1, rfl⟩ := Option.map_eq_some_iff.mp h
  refine ⟨(List.getElem?_eq_some_iff.mp h1).1, ?_⟩
  rw [List.getD_eq_getElem?_getD, h1]
  rfl
theorem map_getD {α : Type} (ns : List Int) (g : Int → α) : (List.range ns.length).map (fun i => g (ns.getD i 0)) = ns.map g := by
  refine List.ext_getElem (by simp) fun i h1 h2 => ?_
  have h : i < ns.length := by simpa using h2
  simp [List.getD_eq_getElem?_getD, h]
theorem map_getDL {α : Type} (ns : List (List Int)) (g : List Int → α) : (List.range ns.length).map (fun i => g (ns.getD i [])) = ns.map g := by
  refine List.ext_getElem (by simp) fun i h1 h2 => ?_
  have h : i < ns.length := by simpa using h2
  simp [List.getD_eq_getElem?_getD, h]
theorem take_filter {ns : List Int} {p : Int → Bool} {i : Nat} (h : i < ns.length) : (ns.take (i + 1)).filter p = (ns.take i).filter p ++ if p (ns.getD i 0) = true then [ns.getD i 0] else [] := by
  have e : (ns[i]?).toList = [ns.getD i 0] := by rw [List.getD_eq_getElem?_getD, List.getElem?_eq_getElem h]; rfl
  rw [List.take_add_one, List.filter_append, e]
  congr 1
  by_cases c : p (ns.getD i 0) = true
  · rw [if_pos c, List.filter_cons_of_pos c, List.filter_nil]
  · rw [if_neg c, List.filter_cons_of_neg c, List.filter_nil]
/-! ### without -/
def wout (ns : List Int) (c : Int) : List Int := ns.filter fun x => decide (x ≠ c)
def sp_without (K : PySem.W.Frag) : Sp := fun vs H Q _ => ∃ (t : Addr) (ns : List Int) (c : Int), vs = [.ref t, .int c] ∧ SqT K H t (ns.map V.int) ∧ ns.length ≤ 1000 ∧ ∀ u H', Ch [] H H' → SqT K H' u ((wout ns c).map V.int) → Q (.ref u) H'
def t_without (K : PySem.W.Frag) : TS :=
    (tRet (tCB (rTupOf K) (tCons (tLc (iTup K (tVar 0)) (gName 2) (tTest (tOp rNe (tVar 2) (tVar 1))) (tVar 2) [2]) tNil)))

theorem len_without (K : PySem.W.Frag) : ∀ vs H Q E, sp_without K vs H Q E → vs.length = 2 := by
  rintro vs H Q E ⟨n, m, c, rfl, _⟩
  rfl
theorem rd_without {K : PySem.W.Frag} {H : Hp} {vs : List V} {Q : VK} {E : XK} {N : List Str} (h : sp_without K vs H Q E) (hN : N.length = 3 := by rfl) : t_without K { nx := fun _ H' => Q .non H', rt := Q } (start N vs) H := by
  obtain ⟨t, ns, c, rfl, ht, hz, k⟩ := h
  refine w_start (σ := [some (.ref t), some (.int c), none]) (by simp [L2.start, hN]) ?_
  unfold t_without
  walk_at "rd"
  refine w_goT ht ?_
  refine w_lcT (fun L i acc H' => Ch [] H H' ∧ acc = (wout (ns.take i) c).map V.int) (fun L H' hL c e => ⟨c, rfl⟩) (fun _ => rfl) (fun L i acc H' hL e m => m.1.sqt ht) ?_ ?_
  · rintro L i x acc H' hL hx ha e ⟨c1, rfl⟩
    obtain ⟨hi, rfl⟩ := int_at hx
    dsimp only [wipe, List.set_cons_zero, List.set_cons_succ]
    walk_at "rd"
    refine w_itn (fun hc => ?_) (fun hc => ?_)
    · walk_at "rd"
      refine w_lcput e ha (by omega) fun H5 c5 e5 => ⟨Ch.old c1 hL c5, ?_⟩
      unfold wout
      rw [take_filter hi, if_pos (decide_eq_true hc), List.map_append]
      rfl
    · refine w_lcskip e ha ⟨c1, ?_⟩
      unfold wout
      rw [take_filter hi, if_neg (by simpa using hc), List.append_nil]
  · rintro L acc H' hL e ⟨c1, rfl⟩
    rw [List.length_map, List.take_length] at e
    walk_at "rd"
    refine w_tupOf (SqL.of e) fun u H2 c2 e2 => k u H2 (c1.trans c2) e2
/-! ### sides_of -/
def sp_sides_of (K : PySem.W.Frag) : Sp := fun vs H Q _ => ∃ (t : Addr) (ns : List Int), vs = [.ref t] ∧ SqT K H t (ns.map V.int) ∧ ns.length ≤ 1000 ∧ ∀ l H', H l = none → Ch [] H H' → LT K H' l (ns.map (wout ns)) → Q (.ref l) H'
def t_sides_of (K : PySem.W.Frag) : TS :=
    (tRet (tLc (iTup K (tVar 0)) (gName 1) tYes (tCall (sp_without K) [] E0 (tCons (tVar 0) (tCons (tVar 1) tNil))) [1]))

theorem len_sides_of (K : PySem.W.Frag) : ∀ vs H Q E, sp_sides_of K vs H Q E → vs.length = 1 := by
  rintro vs H Q E ⟨n, m, rfl, _⟩
  rfl
theorem rd_sides_of {K : PySem.W.Frag} {H : Hp} {vs : List V} {Q : VK} {E : XK} {N : List Str} (h : sp_sides_of K vs H Q E) (hN : N.length = 2 := by rfl) : t_sides_of K { nx := fun _ H' => Q .non H', rt := Q } (start N vs) H := by
  obtain ⟨t, ns, rfl, ht, hz, k⟩ := h
  refine w_start (σ := [some (.ref t), none]) (by simp [L2.start, hN]) ?_
  unfold t_sides_of
  walk_at "rd"
  refine w_goT ht ?_
  refine w_lcTT (fun i => wout ns (ns.getD i 0)) ht (fun _ => rfl) (by rw [List.length_map]; omega) ?_ ?_
  · intro i x H1 Q' hx c1 q
    obtain ⟨hi, rfl⟩ := int_at hx
    dsimp only [wipe, List.set_cons_zero, List.set_cons_succ]
    walk_at "rd"
    exact ⟨t, ns, _, rfl, c1.sqt ht, hz, fun u H2 c2 e2 => q u H2 c2 e2⟩
  · intro l H1 hl c1 e1
    rw [List.length_map, map_getD ns (wout ns)] at e1
    exact k l H1 hl c1 e1
/-! ### faces_in -/
def sp_faces_in (K : PySem.W.Frag) : Sp := fun vs H Q _ => ∃ (t : Addr) (ns : List Int), vs = [.ref t] ∧ SqT K H t (ns.map V.int) ∧ ns.length ≤ 10 ∧ ∀ l H', H l = none → Ch [] H H' → LT K H' l ((subs ns ns.length).mergeSort faceLe) → Q (.ref l) H'
def t_faces_in (K : PySem.W.Frag) (f_by_size : Addr) : TS :=
    (tSeq (tAsg (tLst (tCons (tTup tNil) tNil)) (gName 1))
    (tSeq (tFor (iTup K (tVar 0)) (gName 2)
    (tAsg (tOp rCat (tVar 1) (tLc (iList K (tVar 1)) (gName 3) tYes (tOp (rCatA K) (tVar 3) (tTup (tCons (tVar 2) tNil))) [3])) (gName 1)))
    (tRet (tCKw (rSortSz K f_by_size) (tCons (tVar 1) tNil) (tCons (tC (.ref f_by_size)) tNil)))))

theorem len_faces_in (K : PySem.W.Frag) : ∀ vs H Q E, sp_faces_in K vs H Q E → vs.length = 1 := by
  rintro vs H Q E ⟨n, m, rfl, _⟩
  rfl
theorem rd_faces_in {K : PySem.W.Frag} {f : Addr} {H : Hp} {vs : List V} {Q : VK} {E : XK} {N : List Str} (h : sp_faces_in K vs H Q E) (hN : N.length = 4 := by rfl) : t_faces_in K f { nx := fun _ H' => Q .non H', rt := Q } (start N vs) H := by
  obtain ⟨t, ns, rfl, ht, hz, k⟩ := h
  refine w_start (σ := [some (.ref t), none, none, none]) (by simp [L2.start, hN]) ?_
  unfold t_faces_in
  have p10 : ∀ i, i ≤ ns.length → 2 ^ i ≤ 1024 := fun i hi => Nat.le_trans (Nat.pow_le_pow_right (by decide) (show i ≤ 10 by omega)) (by decide)
  walk_at "rd"
  refine w_newT (K := K) (by show 0 ≤ sizeLine; decide) fun e H1 c1 e1 => ?_
  walk_at "rd"
  refine w_newA (by show 1 ≤ sizeLine; decide) fun l H2 hl c2 e2 => ?_
  walk_at "rd"
  refine w_goT (c2.sqt (c1.sqt ht)) ?_
  refine w_forT (xs := ns.map V.int) (fun i σ' H' => Ch [] H H' ∧ ∃ l o2 o3, LT K H' l (subs ns i) ∧ σ' = [some (.ref t), some (.ref l), o2, o3]) ⟨c1.trans c2, l, none, none, ⟨[(e, [])], e2, fun b hb => ?_, rfl⟩, rfl⟩ (fun i σ' H' _ m => m.1.sqt ht) ?_ ?_
  · rw [List.mem_singleton.mp hb]
    exact c2.sqt e1
  · rintro i x σ' H3 hx ⟨c3, l, o2, o3, ⟨bs, e3, b1, b2⟩, rfl⟩
    obtain ⟨hi, rfl⟩ := int_at hx
    have bl : bs.length = 2 ^ i := by rw [← subs_len ns i, ← b2, List.length_map]
    have := p10 i (by omega)
    walk_at "rd"
    refine w_goL (SqL.of e3) ?_
    refine w_lcLT (fun j => (subs ns i).getD j [] ++ [ns.getD i 0]) (SqL.of e3) (fun _ => rfl) (by rw [List.length_map]; omega) ?_ ?_
    · intro j x H4 Q' hx c4 q
      dsimp only [wipe, List.set_cons_zero, List.set_cons_succ]
      rw [List.getElem?_map] at hx
      obtain ⟨b, hb, rfl⟩ := Option.map_eq_some_iff.mp hx
      have hb2 : (subs ns i).getD j [] = b.2 := by
        rw [← b2, List.getD_eq_getElem?_getD, List.getElem?_map, hb]
        rfl
      have hm := List.mem_of_getElem? hb
      have h4 := c4.sqt (b1 b hm)
      have hfl : b.2.length ≤ i := (subs_mem (ns := ns) (k := i) (by omega) (by rw [← b2]; exact List.mem_map_of_mem hm)).1
      walk_at "rd"
      refine w_newT (K := K) (by show 1 ≤ sizeLine; decide) fun u H5 c5 e5 => ?_
      refine w_catA (c5.sqt h4) e5 (by rw [sizeLine_eq, List.length_map]; show b.2.length + 1 ≤ _; omega) fun w H6 c6 e6 => q w H6 (c5.trans c6) ?_
      rw [hb2, List.map_append]
      exact e6
    · intro l2 H4 hl2 c4 ⟨cs, e4, d1, d2⟩
      rw [List.length_map, ← List.length_map (as := bs) (f := (·.2)), b2, map_getDL (subs ns i) (· ++ [ns.getD i 0])] at d2
      have cl : cs.length = 2 ^ i := by rw [← List.length_map (as := cs) (f := (·.2)), d2, List.length_map, subs_len]
      refine w_cat (c4.lst e3) e4 (by rw [sizeLine_eq, List.length_map, List.length_map]; omega) fun l3 H5 hl3 c5 e5 => ?_
      walk_at "rd"
      refine ⟨(c3.trans c4).trans c5, l3, _, _, ⟨bs ++ cs, by rw [e5, List.map_append], fun b hb => ?_, by rw [List.map_append, b2, d2]; rfl⟩, rfl⟩
      rcases List.mem_append.mp hb with h | h
      · exact c5.sqt (c4.sqt (b1 b h))
      · exact c5.sqt (d1 b h)
  · rintro σ' H3 ⟨c3, l, o2, o3, ⟨bs, e3, b1, b2⟩, rfl⟩
    rw [List.length_map] at b2
    have bl : bs.length = 2 ^ ns.length := by rw [← subs_len ns ns.length, ← b2, List.length_map]
    have := p10 ns.length (by omega)
    walk_at "rd"
    refine w_sortSz (SqL.of e3) b1 (by omega) (fun b hb => ?_) fun l2 H4 hl2 c4 e4 => k l2 H4 (c3.free hl2) (c3.trans c4) (by rw [← b2]; exact e4)
    have := (subs_mem (Nat.le_refl _) (show b.2 ∈ subs ns ns.length by rw [← b2]; exact List.mem_map_of_mem hb)).1
    omega

/-! ### the law's own: corners, faces -/
def sp_lcorner (K : PySem.W.Frag) : Sp := fun vs H Q _ => ∃ (p : Addr), vs = [.ref p] ∧ Pen K H p ∧ ∀ r H', r.natAbs ≤ 10 ^ 30 - 1 → Ch [p] H H' → Pen K H' p → Q (.int r) H'
def t_lcorner (K : PySem.W.Frag) : TS :=
    (tSeq (tAsg (tOp rSub (tOp rPow (tC (.int 10)) (tC (.int 30))) (tC (.int 1))) (gName 1))
    (tSeq (tAsg (tCall (sp_ldraw K) [] E0 (tCons (tVar 0) (tCons (tC (.int 8)) tNil))) (gName 2))
    (tSeq (tIfS (tTest (tOp rLt (tVar 2) (tC (.int 5)))) (tRet (tOp rSub (tCall (sp_ldraw K) [] E0 (tCons (tVar 0) (tCons (tC (.int 30)) tNil))) (tC (.int 6)))) tNext)
    (tSeq (tIfS (tTest (tOp rEq (tVar 2) (tC (.int 5)))) (tRet (tOp rSub (tCall (sp_lwide K) [] E0 (tCons (tVar 0) (tCons (tOp rAdd (tOp rMul (tC (.int 2)) (tVar 1)) (tC (.int 1))) tNil))) (tVar 1))) tNext)
    (tRet (tOp (rIxL K) (tLst (tCons (tVar 1) (tCons (tOp rSub (tC (.int 0)) (tVar 1)) tNil))) (tOp rSub (tVar 2) (tC (.int 6)))))))))

theorem len_lcorner (K : PySem.W.Frag) : ∀ vs H Q E, sp_lcorner K vs H Q E → vs.length = 1 := by
  rintro vs H Q E ⟨p, rfl, _⟩
  rfl
theorem rd_lcorner {K : PySem.W.Frag} {H : Hp} {vs : List V} {Q : VK} {E : XK} {N : List Str} (h : sp_lcorner K vs H Q E) (hN : N.length = 3 := by rfl) : t_lcorner K { nx := fun _ H' => Q .non H', rt := Q } (start N vs) H := by
  obtain ⟨p, rfl, hp, k⟩ := h
  refine w_start (σ := [some (.ref p), none, none]) (by simp [L2.start, hN]) ?_
  unfold t_lcorner
  walk_at "rd"
  have ef : (10 : Int) ^ Int.toNat 30 - 1 = 999999999999999999999999999999 := by decide
  rw [ef]
  refine ⟨p, _, rfl, hp, by decide, by decide, fun s H1 s0 s1 c1 hp1 => ?_⟩
  walk_at "rd"
  refine w_ite (fun hy => ?_) (fun hy => ?_)
  · walk_at "rd"
    refine ⟨p, _, rfl, hp1, by decide, by decide, fun r H2 r0 r1 c2 hp2 => ?_⟩
    walk_at "rd"
    exact k _ _ (by omega) (c1.trans c2) hp2
  walk_at "rd"
  refine w_ite (fun hy => ?_) (fun hy => ?_)
  · walk_at "rd"
    refine ⟨p, _, rfl, hp1, by decide, by decide +kernel, fun r H2 r0 r1 c2 hp2 => ?_⟩
    walk_at "rd"
    exact k _ _ (by omega) (c1.trans c2) hp2
  walk_at "rd"
  refine w_newA (by show 2 ≤ sizeLine; decide) fun q H2 hq c2 e2 => ?_
  walk_at "rd"
  have hs : s = 6 ∨ s = 7 := by omega
  have hp2 := hp1.keep c2
  rcases hs with rfl | rfl
  · exact w_ixL (SqL.of e2) rfl (k _ _ (by decide) (c1.trans c2.wide) hp2)
  · exact w_ixL (SqL.of e2) rfl (k _ _ (by decide) (c1.trans c2.wide) hp2)
def sp_lface (K : PySem.W.Frag) : Sp := fun vs H Q _ => ∃ (p : Addr) (m : Int), vs = [.ref p, .int m] ∧ Pen K H p ∧ 0 ≤ m ∧ m ≤ 50 ∧
  ∀ t (ms : List Int) H', ms.Pairwise (· < ·) → ms.length ≤ m.toNat → (∀ x ∈ ms, x.natAbs ≤ 10 ^ 30 - 1) → Ch [p] H H' → Pen K H' p → SqT K H' t (ms.map V.int) → Q (.ref t) H'
def t_lface (K : PySem.W.Frag) (w : World) : TS :=
    (tRet (tCB (rTupOf K) (tCons (tCB (rSortedSet w) (tCons (tCB (rSetI K w) (tCons (tLc (iRng1 (tCons (tCall (sp_ldraw K) [] E0 (tCons (tVar 0) (tCons (tOp rAdd (tVar 1) (tC (.int 1))) tNil))) tNil)) (gName 2) tYes (tCall (sp_lcorner K) [] E0 (tCons (tVar 0) tNil)) [2]) tNil)) tNil)) tNil)))

theorem len_lface (K : PySem.W.Frag) : ∀ vs H Q E, sp_lface K vs H Q E → vs.length = 2 := by
  rintro vs H Q E ⟨p, m, rfl, _⟩
  rfl
theorem rd_lface {K : PySem.W.Frag} {w : World} {H : Hp} {vs : List V} {Q : VK} {E : XK} {N : List Str} (h : sp_lface K vs H Q E) (hN : N.length = 3 := by rfl) : t_lface K w { nx := fun _ H' => Q .non H', rt := Q } (start N vs) H := by
  obtain ⟨p, m, rfl, hp, m0, m1, k⟩ := h
  refine w_start (σ := [some (.ref p), some (.int m), none]) (by simp [L2.start, hN]) ?_
  unfold t_lface
  walk_at "rd"
  refine ⟨p, _, rfl, hp, by omega, by omega, fun n H1 n0 n1 c1 hp1 => ?_⟩
  walk_at "rd"
  refine w_rngN (n := n.toNat) (by omega) (by omega) ?_
  refine drawn (B := 10 ^ 30 - 1) hp1 (fun _ => rfl) (by omega) (fun i H4 Q' hi c4 hp4 k' => ?_) (fun l ns H4 hl e1 e2 c4 hp4 e4 => ?_)
  · dsimp only [wipe, List.set_cons_zero, List.set_cons_succ]
    walk_at "rd"
    exact ⟨p, rfl, hp4, fun r H5 r1 c5 hp5 => k' r H5 r1 c5 hp5⟩
  · walk_at "rd"
    refine w_setI (SqL.of e4) (by omega) fun q c H5 hc hq c5 e5 => ?_
    walk_at "rd"
    refine w_sortSet e5 (by omega) fun ms l2 H6 hr hm hl2 c6 e6 => ?_
    walk_at "rd"
    refine w_tupOf (SqL.of e6) fun u H7 c7 e7 => ?_
    exact k u ms H7 hr.1 (by omega) (fun x hx => e2 x ((hr.2 x).mp hx)) (((c1.trans c4).trans c5.wide).trans (c6.wide.trans c7.wide)) (((hp4.keep c5).keep c6).keep c7) e7
/-! ### all choices, here -/
def sp_lchoices (K : PySem.W.Frag) : Sp := sp_faces_in K
def t_lchoices (K : PySem.W.Frag) : TS :=
    (tSeq (tAsg (tLst tNil) (gName 1))
    (tSeq (tFor (iRng1 (tCons (tOp rShl (tC (.int 1)) (tCB (rLenL K) (tCons (tVar 0) tNil))) tNil)) (gName 2)
    (tSeq (tAsg (tCB (rTupOf K) (tCons (tLc (iRng1 (tCons (tCB (rLenL K) (tCons (tVar 0) tNil)) tNil)) (gName 4) (tTest (tOp rEq (tOp rAnd (tOp rShr (tVar 2) (tVar 4)) (tC (.int 1))) (tC (.int 1)))) (tOp (rIxT K) (tVar 0) (tVar 4)) [4]) tNil)) (gName 3))
    (tDrop (tBM K "list" rAppend (tVar 1) (tCons (tTup (tCons (tCB (rLenL K) (tCons (tVar 3) tNil)) (tCons (tVar 3) tNil))) tNil)))))
    (tRet (tLc (iList K (tCB (rSortD K) (tCons (tVar 1) tNil))) (gTup K 2 (gCons (gName 5) (gCons (gName 3) gNil))) tYes (tVar 3) [5, 3]))))

theorem len_lchoices (K : PySem.W.Frag) : ∀ vs H Q E, sp_lchoices K vs H Q E → vs.length = 1 := len_faces_in K
section
variable {K : PySem.W.Frag} {H : Hp} {Q : VK} {a : Addr} {xs : List V} {te : TE} {vs : List Nat} {σ : L2.St} {g : TG}
theorem w_lcLTG (F : Nat → List Int) (hs : SqL K H a xs) (hn : xs.length ≤ 10000000)
    (ht : ∀ (i : Nat) x H1 (Qg : L2.St → Hp → Prop), xs[i]? = some x → Ch [] H H1 → (∀ σ2, wipe σ2 vs = wipe σ vs → (∀ (Q : VK), (∀ t H2, Ch [] H1 H2 → SqT K H2 t ((F i).map V.int) → Q (.ref t) H2) → te σ2 H1 Q) → Qg σ2 H1) → g x (wipe σ vs) H1 Qg)
    (k : ∀ l H', H l = none → Ch [] H H' → LT K H' l ((List.range xs.length).map F) → Q (.ref l) H') : LcGo (Itl K a) g tYes te vs σ H Q := fun L hL =>
  lc_list (xs := xs) (Lc (Made K H F) L) ⟨[], upd_same, Nat.le_refl _, made_none (.new hL)⟩ (fun i H' _ p => by
    obtain ⟨acc, h1, h2, h3⟩ := p
    exact h3.1.sql hs) (fun i x H' hi p => by
    obtain ⟨acc, h1, h2, h3⟩ := p
    refine ht i x H' _ hi h3.1 fun σ2 hw h => ⟨hw, ?_⟩
    exact made_turn hL h2 (by have := (List.getElem?_eq_some_iff.mp hi).1; omega) h1 h3 h) (fun H' p => by
    obtain ⟨acc, h1, h2, h3⟩ := p
    exact k L H' hL h3.1 (made_end h1 h3))
end
abbrev Cz := Addr × Addr × List Int
def czItem (c : Cz) : V × PyData := (.ref c.1, .tuple [.int c.2.2.length, encT c.2.2])
theorem cz_le (p q : Cz) : faceLe p.2.2 q.2.2 = PySem.W.dataLe false Prod.snd (czItem p) (czItem q) := (congrFun (congrFun sizeLe (p.1, p.2.2)) (q.1, q.2.2)).symm
theorem cz_depth (c : Cz) : (czItem c).2.depth ≤ 40 := Nat.le_trans (depth_size (c.1, c.2.2)) (by decide)
theorem rd_lchoices {K : PySem.W.Frag} {H : Hp} {vs : List V} {Q : VK} {E : XK} {N : List Str} (h : sp_lchoices K vs H Q E) (hN : N.length = 6 := by rfl) : t_lchoices K { nx := fun _ H' => Q .non H', rt := Q } (start N vs) H := by
  obtain ⟨t, ns, rfl, ht, hz, k⟩ := h
  refine w_start (σ := [some (.ref t), none, none, none, none, none]) (by simp [L2.start, hN]) ?_
  unfold t_lchoices
  have p10 : 2 ^ ns.length ≤ 1024 := Nat.le_trans (Nat.pow_le_pow_right (by decide) hz) (by decide)
  walk_at "rd"
  refine w_newA (by show 0 ≤ sizeLine; decide) fun l H1 hl c1 e1 => ?_
  have ht1 := c1.sqt ht
  walk_at "rd"
  refine w_shl ⟨?_, ?_, by decide⟩ ?_
  · omega
  · rw [List.length_map]
    omega
  walk_at "rd"
  refine w_rngN (n := 2 ^ ns.length) (by rw [Int.one_mul, List.length_map, Int.toNat_natCast]; rfl) (by omega) ?_
  refine w_forR (fun m σ' H' => Ch [] H H' ∧ ∃ (cs : List Cz) (o2 o3 o4 o5 : Option V), H' l = some (.lst (cs.map fun c => V.ref c.1)) ∧ (∀ c ∈ cs, SqT K H' c.1 [.int c.2.2.length, .ref c.2.1] ∧ SqT K H' c.2.1 (c.2.2.map V.int)) ∧
      cs.map (·.2.2) = (List.range m).map (fun m => sel ns m ns.length) ∧ σ' = [some (.ref t), some (.ref l), o2, o3, o4, o5]) ⟨c1, [], none, none, none, none, e1, (fun _ h => nomatch h), rfl, rfl⟩ ?_ ?_
  · rintro m σ' H2 hm ⟨c2, cs, o2, o3, o4, o5, e2, h2, h3, rfl⟩
    dsimp only [List.set_cons_zero, List.set_cons_succ]
    have ht2 := c2.sqt ht
    walk_at "rd"
    refine w_rngN (n := ns.length) (by rw [List.length_map]) (by omega) ?_
    refine w_lcR (fun L i acc H' => Ch [] H2 H' ∧ acc = (sel ns m i).map V.int) (fun L H' hL c e => ⟨c, rfl⟩) (fun _ => rfl) ?_ ?_
    · rintro L i acc H3 hL hi ha e3 ⟨c3, rfl⟩
      dsimp only [wipe, List.set_cons_zero, List.set_cons_succ]
      walk_at "rd"
      have eb : Builtin.bitAnd ((m : Int) / 2 ^ Int.toNat (i : Int)) 1 = ((m / 2 ^ i % 2 : Nat) : Int) := by
        rw [PyProof.Rows.bitAnd_m1, Int.toNat_natCast]
        norm_cast
      refine w_ite (fun hb => ?_) (fun hb => ?_)
      · walk_at "rd"
        refine w_ixTI (c3.sqt ht2) (by omega) (by omega) ?_
        refine w_lcput e3 ha (by omega) fun H5 c5 e5 => ⟨Ch.old c3 hL c5, ?_⟩
        rw [sel, if_pos (by omega), List.map_append]
        rfl
      · refine w_lcskip e3 ha ⟨c3, ?_⟩
        rw [sel, if_neg (by omega)]
    · rintro L acc H3 hL e3 ⟨c3, rfl⟩
      walk_at "rd"
      refine w_tupOf (SqL.of e3) fun u H4 c4 e4 => ?_
      have e2' := c4.lst (c3.lst e2)
      walk_at "rd"
      refine w_newT (K := K) (by show 2 ≤ sizeLine; decide) fun v H5 c5 e5 => ?_
      have e25 := c5.lst e2'
      have cl : cs.length = m := by rw [← List.length_map (as := cs) (f := (·.2.2)), h3, List.length_map, List.length_range]
      walk_at "rd"
      refine w_app e25 (by rw [sizeLine_eq, List.length_map]; omega) fun H6 c6 e6 => ?_
      have c26 : Ch [l] H2 H6 := ((c3.trans c4).trans c5).wide.trans c6
      refine ⟨Ch.old c2 hl c26, cs ++ [(v, u, sel ns m ns.length)], _, _, _, _, by rw [e6, List.map_append]; rfl, fun c hc => ?_, by rw [List.map_append, h3, List.range_succ, List.map_append]; rfl, rfl⟩
      rcases List.mem_append.mp hc with h | h
      · exact ⟨c26.sqt (h2 c h).1, c26.sqt (h2 c h).2⟩
      · rw [List.mem_singleton.mp h]
        rw [List.length_map] at e5
        exact ⟨c6.sqt e5, c6.sqt (c5.sqt e4)⟩
  · rintro σ' H2 ⟨c2, cs, o2, o3, o4, o5, e2, h2, h3, rfl⟩
    have cl : cs.length = 2 ^ ns.length := by rw [← List.length_map (as := cs) (f := (·.2.2)), h3, List.length_map, List.length_range]
    walk_at "rd"
    refine ⟨l, cs.map czItem, rfl, by rw [List.map_map]; exact SqL.of e2, ?_, ?_, ?_, by rw [List.length_map]; omega, ?_, ?_⟩
    · intro b hb
      obtain ⟨c, hc, rfl⟩ := List.mem_map.mp hb
      exact .tup (h2 c hc).1 (.cons (.int _) (.cons (dp_tup (h2 c hc).2) .nil))
    · intro d hd d' hd'
      rw [List.map_map] at hd hd'
      obtain ⟨c, hc, rfl⟩ := List.mem_map.mp hd
      obtain ⟨c', hc', rfl⟩ := List.mem_map.mp hd'
      simp [czItem, encT, PySem.W.alike, PySem.W.alikeAll, PySem.W.alike_ints]
    · refine .inl fun d hd => ?_
      rw [List.map_map] at hd
      obtain ⟨c, hc, rfl⟩ := List.mem_map.mp hd
      exact ⟨_, _, rfl⟩
    · intro b hb
      obtain ⟨c, hc, rfl⟩ := List.mem_map.mp hb
      exact cz_depth c
    · have es := PySem.W.sort_maps (r := fun p q : Cz => faceLe p.2.2 q.2.2) (s := PySem.W.dataLe false Prod.snd) (l := cs) czItem fun a _ b _ => cz_le a b
      rw [← es, List.map_map]
      refine w_new fun l2 H3 hl2 c3 e3 => ?_
      have es2 := PySem.W.sort_maps (r := fun p q : Cz => faceLe p.2.2 q.2.2) (s := faceLe) (l := cs) (fun c => c.2.2) fun a _ b _ => rfl
      rw [h3, sel_all] at es2
      have hm : ∀ c ∈ cs.mergeSort fun p q : Cz => faceLe p.2.2 q.2.2, c ∈ cs := fun c hc => List.mem_mergeSort.mp hc
      have hlen : (cs.mergeSort fun p q : Cz => faceLe p.2.2 q.2.2).length = 2 ^ ns.length := by rw [List.length_mergeSort, cl]
      generalize (cs.mergeSort fun p q : Cz => faceLe p.2.2 q.2.2) = ds at e3 es2 hm hlen
      refine w_goL (SqL.of e3) ?_
      refine w_lcLTG (fun i => (ds.map (·.2.2)).getD i []) (SqL.of e3) (by rw [List.length_map]; omega) ?_ ?_
      · intro i x H4 Qg hx c4 q
        rw [List.getElem?_map] at hx
        obtain ⟨c, hc, rfl⟩ := Option.map_eq_some_iff.mp hx
        have h4 := h2 c (hm c (List.mem_of_getElem? hc))
        have hA := c4.sqt (c3.sqt h4.1)
        have hB := c4.sqt (c3.sqt h4.2)
        refine w_gtup hA rfl ?_
        dsimp only [wipe, List.set_cons_zero, List.set_cons_succ]
        walk_at "rd"
        refine q _ rfl fun Q' q' => ?_
        walk_at "rd"
        refine q' _ _ .refl ?_
        rw [List.getD_eq_getElem?_getD, List.getElem?_map, hc]
        exact hB
      · intro l3 H4 hl3 c4 e4
        rw [List.length_map, ← List.length_map (as := ds) (f := (·.2.2)), show (List.range (ds.map (·.2.2)).length).map (fun i => (ds.map (·.2.2)).getD i []) = ds.map (·.2.2) by simpa using map_getDL (ds.map (·.2.2)) id, es2] at e4
        exact k l3 H4 (c2.free (c3.free hl3)) (c2.trans (c3.trans c4)) e4
/-! ### one corner less, here -/
def sp_llesser (K : PySem.W.Frag) : Sp := fun vs H Q _ => ∃ (t : Addr) (ns : List Int), vs = [.ref t] ∧ SqT K H t (ns.map V.int) ∧ ns.length ≤ 1000 ∧ ∀ l H', H l = none → Ch [] H H' → LT K H' l ((List.range ns.length).map fun i => ns.take i ++ ns.drop (i + 1)) → Q (.ref l) H'
def t_llesser (K : PySem.W.Frag) : TS :=
    (tRet (tLc (iRng1 (tCons (tCB (rLenL K) (tCons (tVar 0) tNil)) tNil)) (gName 1) tYes (tOp (rCatA K) (tSl (rSlA K) (tVar 0) tNoPart (tPart (tVar 1))) (tSl (rSlA K) (tVar 0) (tPart (tOp rAdd (tVar 1) (tC (.int 1)))) tNoPart)) [1]))

theorem len_llesser (K : PySem.W.Frag) : ∀ vs H Q E, sp_llesser K vs H Q E → vs.length = 1 := by
  rintro vs H Q E ⟨n, m, rfl, _⟩
  rfl
theorem rd_llesser {K : PySem.W.Frag} {H : Hp} {vs : List V} {Q : VK} {E : XK} {N : List Str} (h : sp_llesser K vs H Q E) (hN : N.length = 2 := by rfl) : t_llesser K { nx := fun _ H' => Q .non H', rt := Q } (start N vs) H := by
  obtain ⟨t, ns, rfl, ht, hz, k⟩ := h
  refine w_start (σ := [some (.ref t), none]) (by simp [L2.start, hN]) ?_
  unfold t_llesser
  walk_at "rd"
  refine w_rngN (n := ns.length) (by rw [List.length_map]) (by omega) ?_
  refine w_lcRT (fun i => ns.take i ++ ns.drop (i + 1)) (fun _ => rfl) (by omega) ?_ (fun l H1 hl c1 e1 => k l H1 hl c1 e1)
  intro i H1 Q' hi c1 q
  dsimp only [wipe, List.set_cons_zero, List.set_cons_succ]
  have ht1 := c1.sqt ht
  walk_at "rd"
  refine w_slA ht1 fun u H2 c2 e2 => ?_
  rw [cut_take (by rw [List.length_map]; omega)] at e2
  walk_at "rd"
  refine w_slA (c2.sqt ht1) fun v H3 c3 e3 => ?_
  rw [show ((i : Int) + 1) = ((i + 1 : Nat) : Int) from rfl, cut_drop (by rw [List.length_map]; omega)] at e3
  refine w_catA (c3.sqt e2) e3 (by rw [sizeLine_eq, List.length_take, List.length_drop, List.length_map]; omega) fun w H4 c4 e4 => q w H4 ((c2.trans c3).trans c4) ?_
  rw [List.map_append, List.map_take, List.map_drop]
  exact e4

def sp_law (K : PySem.W.Frag) : Sp := fun vs H Q _ => ∃ (a : Addr) (ns : List Int), vs = [.ref a] ∧ Fz K H a (ns.map V.int) ∧ ∀ H', Q (.bl true) H'
def t_law (K : PySem.W.Frag) : TS :=
    (tSeq (tAsg (tLst (tCons (tVar 0) (tCons (tC (.int 0)) (tCons (tC (.int 0)) tNil)))) (gName 1))
    (tSeq (tFor (iRng1 (tCons (tC (.int 6)) tNil)) (gName 2)
    (tSeq (tAsg (tCall (sp_lface K) [] E0 (tCons (tVar 1) (tCons (tC (.int 6)) tNil))) (gName 3))
    (tCut (tIfS (tTest (tOp rGt (tVar 2) (tC (.int 3)))) (tAsg (tCB (rTupOf K) (tCons (tLc (iRng1 (tCons (tC (.int 6)) tNil)) (gName 7) tYes (tOp rAdd (tCall (sp_ldraw K) [] E0 (tCons (tVar 1) (tCons (tC (.int 9)) tNil))) (tOp rMul (tC (.int 10)) (tVar 7))) [7]) tNil)) (gName 3)) tNext)
    (tFor (iRng1 (tCons (tC (.int 2)) tNil)) (gName 4)
    (tSeq (tAsg (tCall (sp_faces_in K) [] E0 (tCons (tVar 3) tNil)) (gName 5))
    (tSeq (tIfS (tTest (tOp rNe (tCB (rReprD K) (tCons (tVar 5) tNil)) (tCB (rReprD K) (tCons (tCall (sp_lchoices K) [] E0 (tCons (tVar 3) tNil)) tNil)))) (tRet (tC (.bl false))) tNext)
    (tSeq (tAsg (tCall (sp_sides_of K) [] E0 (tCons (tVar 3) tNil)) (gName 6))
    (tSeq (tIfS (tTest (tOp rNe (tCB (rReprD K) (tCons (tVar 6) tNil)) (tCB (rReprD K) (tCons (tCall (sp_llesser K) [] E0 (tCons (tVar 3) tNil)) tNil)))) (tRet (tC (.bl false))) tNext)
    (tSeq (tDrop (tBM0 K "list" rReverse (tVar 5)))
    (tSeq (tDrop (tBM K "list" rAppend (tVar 5) (tCons (tC .non) tNil)))
    (tSeq (tDrop (tBM K "list" rAppend (tVar 6) (tCons (tVar 3) tNil)))
    (tDrop (tBM0 K "list" rReverse (tVar 6))))))))))))))
    (tRet (tAndV (tOp (rEqD K) (tCall (sp_faces_in K) [] E0 (tCons (tTup tNil) tNil)) (tLst (tCons (tTup tNil) tNil))) (tOp (rEqD K) (tCall (sp_sides_of K) [] E0 (tCons (tTup tNil) tNil)) (tLst tNil))))))

theorem len_law (K : PySem.W.Frag) : ∀ vs H Q E, sp_law K vs H Q E → vs.length = 1 := by
  rintro vs H Q E ⟨a, ns, rfl, _⟩
  rfl
/-- numbers drawn below ten, ten apart, rise -/
theorem rises_step {ms : List Int} {i : Nat} {r : Int} (h : ms.Pairwise (· < ·)) (hb : ∀ x ∈ ms, x < 10 * (i : Int)) (r0 : 0 ≤ r) : (ms ++ [r + 10 * (i : Int)]).Pairwise (· < ·) := by
  refine List.pairwise_append.mpr ⟨h, List.pairwise_singleton _ _, fun x hx y hy => ?_⟩
  rw [List.mem_singleton.mp hy]
  have := hb x hx
  omega
theorem lesser_eq {ms : List Int} (h : ms.Pairwise (· < ·)) : ((List.range ms.length).map fun i => ms.take i ++ ms.drop (i + 1)) = ms.map (wout ms) := by
  rw [← map_getD ms (wout ms)]
  refine List.map_congr_left fun i hi => ?_
  exact (left_out i h (List.mem_range.mp hi)).symm
theorem rd_law {K : PySem.W.Frag} {H : Hp} {vs : List V} {Q : VK} {E : XK} {N : List Str} (h : sp_law K vs H Q E) (hN : N.length = 8 := by rfl) : t_law K { nx := fun _ H' => Q .non H', rt := Q } (start N vs) H := by
  obtain ⟨a, ns, rfl, hs, k⟩ := h
  refine w_start (σ := [some (.ref a), none, none, none, none, none, none, none]) (by simp [L2.start, hN]) ?_
  unfold t_law
  walk_at "rd"
  refine w_newA (by show 3 ≤ sizeLine; decide) fun p H1 hp c1 e1 => ?_
  have pen : Pen K H1 p := ⟨a, ns, 0, 0, e1, c1.fz hs, by decide, by decide⟩
  walk_at "rd"
  refine w_rngN (n := 6) rfl (by omega) ?_
  refine w_forR (fun i σ' H' => Pen K H' p ∧ ∃ o2 o3 o4 o5 o6 o7, σ' = [some (.ref a), some (.ref p), o2, o3, o4, o5, o6, o7]) ⟨pen, none, none, none, none, none, none, rfl⟩ ?_ ?_
  · rintro i σ' H2 hi ⟨pen, o2, o3, o4, o5, o6, o7, rfl⟩
    dsimp only [List.set_cons_zero, List.set_cons_succ]
    walk_at "rd"
    refine ⟨p, _, rfl, pen, by decide, by decide, fun t ms H3 hr hl hb c3 pen3 e3 => ?_⟩
    walk_at "rd"
    refine w_cut (fun σ' H' => Pen K H' p ∧ ∃ (t : Addr) (ms : List Int), ms.Pairwise (· < ·) ∧ ms.length ≤ 6 ∧ (∀ x ∈ ms, x.natAbs ≤ 10 ^ 30 - 1) ∧ SqT K H' t (ms.map V.int) ∧ ∃ o7, σ' = [some (.ref a), some (.ref p), some (.int i), some (.ref t), o4, o5, o6, o7]) ?_ ?_
    · walk_at "rd"
      refine w_ite (fun hy => ?_) (fun hy => ?_)
      · walk_at "rd"
        refine w_rngN (n := 6) rfl (by omega) ?_
        refine w_lcR (fun L j acc H' => Ch [p] H3 H' ∧ Pen K H' p ∧ ∃ ms : List Int, acc = ms.map V.int ∧ ms.length = j ∧ ms.Pairwise (· < ·) ∧ ∀ x ∈ ms, 0 ≤ x ∧ x < 10 * (j : Int)) ?_ (fun _ => rfl) ?_ ?_
        · intro L H' hL c e
          exact ⟨c.wide, pen3.keep c, [], rfl, rfl, .nil, fun _ h => nomatch h⟩
        · rintro L j acc H4 hL hj ha e4 ⟨c4, pen4, ms, rfl, hj2, h1, h2⟩
          dsimp only [wipe, List.set_cons_zero, List.set_cons_succ]
          walk_at "rd"
          refine ⟨p, _, rfl, pen4, by decide, by decide, fun r H5 r0 r1 c5 pen5 => ?_⟩
          have nLp : L ≠ p := Ne.symm (pen3.ne hL)
          walk_at "rd"
          refine w_lcput (c5.but e4 nLp) ha (by omega) fun H6 c6 e6 => ⟨Ch.old (c4.trans c5) hL c6, pen5.but c6 (Ne.symm nLp), ms ++ [r + 10 * (j : Int)], by rw [List.map_append]; rfl, by simp [hj2], rises_step h1 (fun x hx => (h2 x hx).2) r0, fun x hx => ?_⟩
          rcases List.mem_append.mp hx with h | h
          · have := h2 x h
            omega
          · rw [List.mem_singleton.mp h]
            omega
        · rintro L acc H4 hL e4 ⟨c4, pen4, ms, rfl, hj2, h1, h2⟩
          walk_at "rd"
          refine w_tupOf (SqL.of e4) fun u H5 c5 e5 => ?_
          walk_at "rd"
          refine ⟨pen4.keep c5, u, ms, h1, by omega, fun x hx => ?_, e5, _, rfl⟩
          have := h2 x hx
          omega
      · walk_at "rd"
        exact ⟨pen3, t, ms, hr, hl, hb, e3, _, rfl⟩
    · rintro σ' H4 ⟨pen4, t, ms, hr, hl, hb, e4, o7, rfl⟩
      walk_at "rd"
      have b1 : ∀ x ∈ ms, x.natAbs < 10 ^ 70 := fun x hx => Nat.lt_of_le_of_lt (hb x hx) (by decide +kernel)
      have q1 : (subs ms ms.length).length ≤ 4000 := by
        rw [subs_len]
        exact Nat.le_trans (Nat.pow_le_pow_right (by decide) hl) (by decide)
      have q2 : ((subs ms ms.length).mergeSort faceLe).length ≤ 4000 := by rw [List.length_mergeSort]; exact q1
      have q3 : ∀ f ∈ (subs ms ms.length).mergeSort faceLe, f.length ≤ 40 ∧ ∀ x ∈ f, x.natAbs < 10 ^ 70 := fun f hf => by
        have := subs_mem (Nat.le_refl _) (List.mem_mergeSort.mp hf)
        exact ⟨by omega, fun x hx => b1 x (this.2 x hx)⟩
      have q4 : (ms.map (wout ms)).length ≤ 4000 := by rw [List.length_map]; omega
      have q5 : ∀ f ∈ ms.map (wout ms), f.length ≤ 40 ∧ ∀ x ∈ f, x.natAbs < 10 ^ 70 := fun f hf => by
        obtain ⟨c, _, rfl⟩ := List.mem_map.mp hf
        have : (wout ms c).length ≤ ms.length := List.length_filter_le _ _
        exact ⟨by omega, fun x hx => b1 x (List.mem_filter.mp hx).1⟩
      refine w_rngN (n := 2) rfl (by omega) ?_
      refine w_forR (fun j σ' H' => Pen K H' p ∧ SqT K H' t (ms.map V.int) ∧ ∃ o4 o5 o6, σ' = [some (.ref a), some (.ref p), some (.int i), some (.ref t), o4, o5, o6, o7]) ⟨pen4, e4, _, _, _, rfl⟩ ?_ ?_
      · rintro j σ' H5 hj ⟨pen5, e5, o4, o5, o6, rfl⟩
        dsimp only [List.set_cons_zero, List.set_cons_succ]
        walk_at "rd"
        refine ⟨t, ms, rfl, e5, by omega, fun l H6 hl6 c6 f6 => ?_⟩
        walk_at "rd"
        refine w_reprF f6 q2 q3 ?_
        walk_at "rd"
        refine ⟨t, ms, rfl, c6.sqt e5, by omega, fun l' H7 hl7 c7 f7 => ?_⟩
        walk_at "rd"
        refine w_reprF f7 q2 q3 ?_
        refine w_neS ?_
        walk_at "rd"
        refine w_itn (fun hz => absurd rfl hz) (fun _ => ?_)
        walk_at "rd"
        refine ⟨t, ms, rfl, c7.sqt (c6.sqt e5), by omega, fun m H8 hl8 c8 f8 => ?_⟩
        walk_at "rd"
        refine w_reprF f8 q4 q5 ?_
        walk_at "rd"
        refine ⟨t, ms, rfl, c8.sqt (c7.sqt (c6.sqt e5)), by omega, fun m' H9 hl9 c9 f9 => ?_⟩
        rw [lesser_eq hr] at f9
        walk_at "rd"
        refine w_reprF f9 q4 q5 ?_
        refine w_neS ?_
        walk_at "rd"
        refine w_itn (fun hz => absurd rfl hz) (fun _ => ?_)
        have e9 : SqT K H9 t (ms.map V.int) := c9.sqt (c8.sqt (c7.sqt (c6.sqt e5)))
        have pen9 := (((pen5.keep c6).keep c7).keep c8).keep c9
        obtain ⟨bs, el, _, z2⟩ := (f6.keep c7).keep c8
        obtain ⟨bs', em, _, z3⟩ := f8
        have nlm : m ≠ l := fun z => by
          subst z
          obtain ⟨_, z, _⟩ := f6.keep c7
          rw [z] at hl8
          cases hl8
        have npl : p ≠ l := pen5.ne hl6
        have npm : p ≠ m := ((pen5.keep c6).keep c7).ne hl8
        have el9 := c9.lst el
        have em9 := c9.lst em
        have bl : bs.length ≤ 4000 := by
          have z := congrArg List.length z2
          rw [List.length_map] at z
          omega
        have bl' : bs'.length ≤ 4000 := by
          have z := congrArg List.length z3
          rw [List.length_map] at z
          omega
        walk_at "rd"
        refine w_rev (n := 0) el9 fun Ha ca ea => ?_
        walk_at "rd"
        refine w_app ea (by rw [sizeLine_eq, List.length_reverse, List.length_map]; omega) fun Hb cb eb => ?_
        have emb := cb.but (ca.but em9 nlm) nlm
        walk_at "rd"
        refine w_app emb (by rw [sizeLine_eq, List.length_map]; omega) fun Hc cc ec => ?_
        walk_at "rd"
        refine w_rev (n := 0) ec fun Hd cd ed => ?_
        exact ⟨(((pen9.but ca npl).but cb npl).but cc npm).but cd npm, cd.sqt (cc.sqt (cb.sqt (ca.sqt e9))), _, _, _, rfl⟩
      · rintro σ' H5 ⟨pen5, e5, o4, o5, o6, rfl⟩
        exact ⟨pen5, _, _, _, _, _, _, rfl⟩
  · rintro σ' H2 ⟨pen, o2, o3, o4, o5, o6, o7, rfl⟩
    walk_at "rd"
    refine w_newT (K := K) (by show 0 ≤ sizeLine; decide) fun t H3 c3 e3 => ?_
    walk_at "rd"
    refine ⟨t, [], rfl, e3, by decide, fun l H4 hl c4 f4 => ?_⟩
    walk_at "rd"
    refine w_newT (K := K) (by show 0 ≤ sizeLine; decide) fun u H5 c5 e5 => ?_
    walk_at "rd"
    refine w_newA (by show 1 ≤ sizeLine; decide) fun v H6 hv c6 e6 => ?_
    have g6 : LT K H6 v [[]] := ⟨[(u, [])], e6, fun b hb => by rw [List.mem_singleton.mp hb]; exact c6.sqt e5, rfl⟩
    have f6 : LT K H6 l [[]] := (show (subs [] 0).mergeSort faceLe = [[]] by simp [subs]) ▸ ((f4.keep c5).keep c6)
    refine ⟨_, _, f6.dp, g6.dp, by decide, by decide, ?_⟩
    rw [show PyData.eqv (.list ([[]].map encT)) (.list ([[]].map encT)) = true by decide]
    walk_at "rd"
    refine w_newT (K := K) (by show 0 ≤ sizeLine; decide) fun t H7 c7 e7 => ?_
    walk_at "rd"
    refine ⟨t, [], rfl, e7, by decide, fun l H8 hl c8 f8 => ?_⟩
    walk_at "rd"
    refine w_newA (by show 0 ≤ sizeLine; decide) fun v H9 hv c9 e9 => ?_
    have g9 : LT K H9 v [] := ⟨[], e9, (fun _ h => nomatch h), rfl⟩
    refine ⟨_, _, (f8.keep c9).dp, g9.dp, by decide, by decide, ?_⟩
    rw [show PyData.eqv (.list ((([] : List Int).map (wout [])).map encT)) (.list (([] : List (List Int)).map encT)) = true by decide]
    exact k _
theorem fz_of {K : PySem.W.Frag} {H : Hp} {a : Addr} {ns : List Int} (h : SqL K H a (ns.map V.int)) (hH : ∀ b u, H b = some u → b = a ∧ ∃ o v, u = .frz o v) : Fz K H a (ns.map V.int) := by
  rcases h with (h | ⟨o, h⟩) | h
  · obtain ⟨_, o, v, z⟩ := hH a _ h
    cases z
  · exact .inl ⟨o, h⟩
  · exact .inr fun _ => .inr h
/-! ## the text by places -/
def topS (i : Nat) : Stmt := PySem.Challenge.pw_wholesides_k04_faces_in_a_face.main.body.getD i (.Pass ⟨0, 0, 0, 0⟩)
structure Tx (mg : Str → Option Value) : Prop where
  b_len : mg "len" = none
  b_tuple : mg "tuple" = none
  b_sorted : mg "sorted" = none
  b_abs : mg "abs" = none
  b_str : mg "str" = none
  b_range : mg "range" = none
  b_set : mg "set" = none
  b_repr : mg "repr" = none
section
variable {P : Program} {w : World} {K : PySem.W.Frag} {mg : Str → Option Value} {base : Heap}
abbrev s_by_size : Stmt := topS 1
theorem size_txt : SizeTxt s_by_size := ⟨⟨_, rfl⟩, ⟨_, _, _, _, _, _, _, rfl⟩, ⟨_, rfl⟩⟩
abbrev s_without : Stmt := topS 2
abbrev N_without : List Str := ["face", "corner", "one"]
theorem sc_without : FnScope N_without ["face", "corner"] (defScope s_without) := ⟨rfl, rfl, rfl, by decide +kernel, rfl, by decide +kernel, by decide +kernel⟩
theorem ok_without {f : Addr} {fd : FuncData} (F : Fun K "without" "without" s_without f fd) (T : Tx mg) : FnOk P w K mg base CX0 1 f fd ["face", "corner"] (sp_without K) := by
  have sc := sc_without
  refine F.ok sc (len_without K) (fun cdv A outer s H vs Q E hr h => ⟨t_without K, ?_, rd_without h⟩)
  exact (pss_one (ps_ret (pe_callTy cr_tuple (by rfl) T.b_tuple (by decide +kernel) (pa_cons (pe_lc (own := [("one", 2)]) (by rfl) sc.nd (pi_tup (pv 0)) (blkOk_by (own := [("one", 2)]) (N := N_without) (sc := defScope s_without) (by decide +kernel)) (fun _ _ _ _ _ => (pg_name (i := 2) sc.nd rfl (.inl rfl))) (fun _ _ _ _ _ => (pts_one (pt_cmpR op_ne (pv 2) (pv 1) (nomark _)))) (fun _ _ _ _ _ => (pv 2))) pa_nil))))

abbrev s_faces_in : Stmt := topS 3
abbrev N_faces_in : List Str := ["face", "found", "corner", "part"]
theorem sc_faces_in : FnScope N_faces_in ["face"] (defScope s_faces_in) := ⟨rfl, rfl, rfl, by decide +kernel, rfl, by decide +kernel, by decide +kernel⟩
theorem ok_faces_in {f : Addr} {fd : FuncData} (F : Fun K "faces_in" "faces_in" s_faces_in f fd) (T : Tx mg) {f_by_size : Addr} {fd_by_size : FuncData} (g_by_size : mg "by_size" = some (.ref f_by_size)) (F_by_size : Fun K "by_size" "by_size" s_by_size f_by_size fd_by_size) : FnOk P w K mg base CX0 1 f fd ["face"] (sp_faces_in K) := by
  have sc := sc_faces_in
  refine F.ok sc (len_faces_in K) (fun cdv A outer s H vs Q E hr h => ⟨t_faces_in K f_by_size, ?_, rd_faces_in h⟩)
  exact (pss_cons (ps_set (i := 1) sc.nd rfl (.inl rfl) (pe_lst (pa_cons (pe_tup pa_nil) pa_nil)))
      (pss_cons (ps_for PassesOwn.never rfl (pi_tup (pv 0)) (pg_name (i := 2) sc.nd rfl (.inr rfl))
      (pss_one (ps_set (i := 1) sc.nd rfl (.inl rfl) (pe_op op_cat (pv 1) (pe_lc (own := [("part", 3)]) (by rfl) sc.nd (pi_list (pv 1)) (blkOk_by (own := [("part", 3)]) (N := N_faces_in) (sc := defScope s_faces_in) (by decide +kernel)) (fun _ _ _ _ _ => (pg_name (i := 3) sc.nd rfl (.inl rfl))) (fun _ _ _ _ _ => pts_nil) (fun _ _ _ _ _ => (pe_op op_catA (pv 3) (pe_tup (pa_cons (pv 2) pa_nil)))))))))
      (pss_one (ps_ret (pe_callBK (cr_sortSz F_by_size size_txt T.b_len hr) (by rfl) T.b_sorted (by decide +kernel) (pa_cons (pv 1) pa_nil) (pk_cons (pe_glob (by rfl) g_by_size rfl) pk_nil))))))

abbrev s_sides_of : Stmt := topS 4
abbrev N_sides_of : List Str := ["face", "corner"]
theorem sc_sides_of : FnScope N_sides_of ["face"] (defScope s_sides_of) := ⟨rfl, rfl, rfl, by decide +kernel, rfl, by decide +kernel, by decide +kernel⟩
theorem ok_sides_of {f : Addr} {fd : FuncData} (F : Fun K "sides_of" "sides_of" s_sides_of f fd) (T : Tx mg) (h_without : Has P w K mg base "without" ["face", "corner"] 1 (sp_without K)) : FnOk P w K mg base CX0 2 f fd ["face"] (sp_sides_of K) := by
  have sc := sc_sides_of
  refine F.ok sc (len_sides_of K) (fun cdv A outer s H vs Q E hr h => ⟨t_sides_of K, ?_, rd_sides_of h⟩)
  exact (pss_one (ps_ret (pe_lc (own := [("corner", 1)]) (by rfl) sc.nd (pi_tup (pv 0)) (blkOk_by (own := [("corner", 1)]) (N := N_sides_of) (sc := defScope s_sides_of) (by decide +kernel)) (fun _ _ _ _ _ => (pg_name (i := 1) sc.nd rfl (.inl rfl))) (fun _ _ _ _ _ => pts_nil) (fun _ _ _ _ _ => (pe_h h_without (hr.mono (by decide)) (by rfl) (pa_cons (pv 0) (pa_cons (pv 1) pa_nil)))))))

abbrev s_ldraw : Stmt := topS 6
abbrev N_ldraw : List Str := ["_law_pen", "_law_many", "_law_digit", "_law_script", "_law_at", "_law_cell", "_law_one", "_law_two"]
theorem sc_ldraw : FnScope N_ldraw ["_law_pen", "_law_many"] (defScope s_ldraw) := ⟨rfl, rfl, rfl, by decide +kernel, rfl, by decide +kernel, by decide +kernel⟩
theorem ok_ldraw {f : Addr} {fd : FuncData} (F : Fun K "_law_draw" "_law_draw" s_ldraw f fd) (T : Tx mg) : FnOk P w K mg base CX0 1 f fd ["_law_pen", "_law_many"] (sp_ldraw K) := by
  have sc := sc_ldraw
  refine F.ok sc (len_ldraw K) (fun cdv A outer s H vs Q E hr h => ⟨t_ldraw K, ?_, rd_ldraw h⟩)
  exact (pss_cons (ps_if (pt_cmpR o_gt (pe_ix ix_list (pv 0) pe_int (fun _ _ => rfl)) pe_int (nomark _)) (pss_cons (ps_set (i := 2) sc.nd rfl (.inl rfl) (pe_op o_mod (pe_ix ix_list (pv 0) pe_int (fun _ _ => rfl)) (pv 1)))
      (pss_cons (ps_asg (pe_op o_div (pe_ix ix_list (pv 0) pe_int (fun _ _ => rfl)) (pv 1)) (pg_sub (pv 0) pe_int set_list))
      (pss_one (ps_ret (pv 2))))) pss_nil)
      (pss_cons (ps_asg (pe_slice sl_list (pv 0) po_none (po_some pe_int)) (pg_unl rfl (pgs_cons (pg_name (i := 3) sc.nd rfl (.inl rfl)) (pgs_cons (pg_name (i := 4) sc.nd rfl (.inl rfl)) pgs_nil))))
      (pss_cons (ps_asg (pe_op o_add (pv 4) pe_int) (pg_sub (pv 0) pe_int set_list))
      (pss_cons (ps_set (i := 5) sc.nd rfl (.inl rfl) pe_int)
      (pss_cut (ps_if (pt_cmpR o_gt (pe_callB cr_len (by rfl) T.b_len (by decide +kernel) (pa_cons (pv 3) pa_nil)) pe_int (nomark _)) (pss_one (ps_set (i := 5) sc.nd rfl (.inl rfl) (pe_ix ix_list (pv 3) (pe_op o_mod (pv 4) (pe_callB cr_len (by rfl) T.b_len (by decide +kernel) (pa_cons (pv 3) pa_nil))) (fun _ _ => rfl)))) pss_nil)
      (pss_cons (ps_if (PW.pt (pw_and (pt_cmpR o_lt (pv 4) (pe_callB cr_len (by rfl) T.b_len (by decide +kernel) (pa_cons (pv 3) pa_nil)) (nomark _)) (pw_and1 (pt_cmpR o_ge (pe_callB cr_abs (by rfl) T.b_abs (by decide +kernel) (pa_cons (pv 5) pa_nil)) (pe_op o_pow pe_int pe_int) (nomark _))))) (pss_cons (ps_asg (pe_op o_div (pe_callB cr_abs (by rfl) T.b_abs (by decide +kernel) (pa_cons (pv 5) pa_nil)) (pv 1)) (pg_sub (pv 0) pe_int set_list))
      (pss_one (ps_ret (pe_op o_mod (pe_callB cr_abs (by rfl) T.b_abs (by decide +kernel) (pa_cons (pv 5) pa_nil)) (pv 1))))) pss_nil)
      (pss_cons (ps_set (i := 6) sc.nd rfl (.inl rfl) (pe_op o_mod (pe_op o_mul (pe_op o_add (pe_op o_add (pe_op o_mod (pv 5) pe_int) (pe_op o_mul pe_int (pv 4))) pe_int) pe_int) pe_int))
      (pss_cons (ps_set (i := 7) sc.nd rfl (.inl rfl) (pe_op o_mod (pe_op o_add (pe_op o_add (pe_op o_mul (pv 6) (pv 6)) (pe_op o_mul pe_int (pv 6))) (pe_op o_mul pe_int (pv 4))) pe_int))
      (pss_one (ps_ret (pe_op o_mod (pe_op o_div (pe_op o_mod (pe_op o_mul (pv 7) (pe_op o_add (pe_op o_mod (pv 7) pe_int) pe_int)) pe_int) pe_int) (pv 1))))))))))))

abbrev s_lwide : Stmt := topS 7
abbrev N_lwide : List Str := ["_law_pen", "_law_many", "_law_found", "_law_k"]
theorem sc_lwide : FnScope N_lwide ["_law_pen", "_law_many"] (defScope s_lwide) := ⟨rfl, rfl, rfl, by decide +kernel, rfl, by decide +kernel, by decide +kernel⟩
theorem ok_lwide {f : Addr} {fd : FuncData} (F : Fun K "_law_wide" "_law_wide" s_lwide f fd) (T : Tx mg) (h_ldraw : Has P w K mg base "_law_draw" ["_law_pen", "_law_many"] 1 (sp_ldraw K)) : FnOk P w K mg base CX0 2 f fd ["_law_pen", "_law_many"] (sp_lwide K) := by
  have sc := sc_lwide
  refine F.ok sc (len_lwide K) (fun cdv A outer s H vs Q E hr h => ⟨t_lwide K, ?_, rd_lwide h⟩)
  exact (pss_cons (ps_set (i := 2) sc.nd rfl (.inl rfl) pe_int)
      (pss_cons (ps_for PassesOwn.never rfl (pi_range1 (by rfl) T.b_range (pa_cons (pe_op o_add (pe_op o_div (pe_callB cr_lenS (by rfl) T.b_len (by decide +kernel) (pa_cons (pe_callTy cr_str (by rfl) T.b_str (by decide +kernel) (pa_cons (pv 1) pa_nil)) pa_nil)) pe_int) pe_int) pa_nil)) (pg_name (i := 3) sc.nd rfl (.inl rfl))
      (pss_one (ps_set (i := 2) sc.nd rfl (.inl rfl) (pe_op o_add (pe_op o_mul (pv 2) (pe_op o_pow pe_int pe_int)) (pe_h h_ldraw (hr.mono (by decide)) (by rfl) (pa_cons (pv 0) (pa_cons (pe_op o_pow pe_int pe_int) pa_nil)))))))
      (pss_one (ps_ret (pe_op o_mod (pv 2) (pv 1))))))

abbrev s_lcorner : Stmt := topS 8
abbrev N_lcorner : List Str := ["_law_pen", "_law_far", "_law_way"]
theorem sc_lcorner : FnScope N_lcorner ["_law_pen"] (defScope s_lcorner) := ⟨rfl, rfl, rfl, by decide +kernel, rfl, by decide +kernel, by decide +kernel⟩
theorem ok_lcorner {f : Addr} {fd : FuncData} (F : Fun K "_law_corner" "_law_corner" s_lcorner f fd) (T : Tx mg) (h_ldraw : Has P w K mg base "_law_draw" ["_law_pen", "_law_many"] 1 (sp_ldraw K)) (h_lwide : Has P w K mg base "_law_wide" ["_law_pen", "_law_many"] 2 (sp_lwide K)) : FnOk P w K mg base CX0 3 f fd ["_law_pen"] (sp_lcorner K) := by
  have sc := sc_lcorner
  refine F.ok sc (len_lcorner K) (fun cdv A outer s H vs Q E hr h => ⟨t_lcorner K, ?_, rd_lcorner h⟩)
  exact (pss_cons (ps_set (i := 1) sc.nd rfl (.inl rfl) (pe_op o_sub (pe_op o_pow pe_int pe_int) pe_int))
      (pss_cons (ps_set (i := 2) sc.nd rfl (.inl rfl) (pe_h h_ldraw (hr.mono (by decide)) (by rfl) (pa_cons (pv 0) (pa_cons pe_int pa_nil))))
      (pss_cons (ps_if (pt_cmpR o_lt (pv 2) pe_int (nomark _)) (pss_one (ps_ret (pe_op o_sub (pe_h h_ldraw (hr.mono (by decide)) (by rfl) (pa_cons (pv 0) (pa_cons pe_int pa_nil))) pe_int))) pss_nil)
      (pss_cons (ps_if (pt_cmpR op_eq (pv 2) pe_int (nomark _)) (pss_one (ps_ret (pe_op o_sub (pe_h h_lwide (hr.mono (by decide)) (by rfl) (pa_cons (pv 0) (pa_cons (pe_op o_add (pe_op o_mul pe_int (pv 1)) pe_int) pa_nil))) (pv 1)))) pss_nil)
      (pss_one (ps_ret (pe_ix ix_list (pe_lst (pa_cons (pv 1) (pa_cons (pe_op o_sub pe_int (pv 1)) pa_nil))) (pe_op o_sub (pv 2) pe_int) (fun _ _ => rfl))))))))

abbrev s_lface : Stmt := topS 9
abbrev N_lface : List Str := ["_law_pen", "_law_most", "_law_k"]
theorem sc_lface : FnScope N_lface ["_law_pen", "_law_most"] (defScope s_lface) := ⟨rfl, rfl, rfl, by decide +kernel, rfl, by decide +kernel, by decide +kernel⟩
theorem ok_lface {f : Addr} {fd : FuncData} (F : Fun K "_law_face" "_law_face" s_lface f fd) (T : Tx mg) (h_ldraw : Has P w K mg base "_law_draw" ["_law_pen", "_law_many"] 1 (sp_ldraw K)) (h_lcorner : Has P w K mg base "_law_corner" ["_law_pen"] 3 (sp_lcorner K)) : FnOk P w K mg base CX0 4 f fd ["_law_pen", "_law_most"] (sp_lface K) := by
  have sc := sc_lface
  refine F.ok sc (len_lface K) (fun cdv A outer s H vs Q E hr h => ⟨t_lface K w, ?_, rd_lface h⟩)
  exact (pss_one (ps_ret (pe_callTy cr_tuple (by rfl) T.b_tuple (by decide +kernel) (pa_cons (pe_callB (cr_sortedSet rfl) (by rfl) T.b_sorted (by decide +kernel) (pa_cons (pe_callTy (cr_setI rfl) (by rfl) T.b_set (by decide +kernel) (pa_cons (pe_lc (own := [("_law_k", 2)]) (by rfl) sc.nd (pi_range1 (by rfl) T.b_range (pa_cons (pe_h h_ldraw (hr.mono (by decide)) (by rfl) (pa_cons (pv 0) (pa_cons (pe_op o_add (pv 1) pe_int) pa_nil))) pa_nil)) (blkOk_by (own := [("_law_k", 2)]) (N := N_lface) (sc := defScope s_lface) (by decide +kernel)) (fun _ _ _ _ _ => (pg_name (i := 2) sc.nd rfl (.inl rfl))) (fun _ _ _ _ _ => pts_nil) (fun _ _ _ _ _ => (pe_h h_lcorner (hr.mono (by decide)) (by rfl) (pa_cons (pv 0) pa_nil)))) pa_nil)) pa_nil)) pa_nil))))

abbrev s_lchoices : Stmt := topS 10
abbrev N_lchoices : List Str := ["_law_face_here", "_law_some", "_law_mask", "_law_choice", "_law_k", "_law_size"]
theorem sc_lchoices : FnScope N_lchoices ["_law_face_here"] (defScope s_lchoices) := ⟨rfl, rfl, rfl, by decide +kernel, rfl, by decide +kernel, by decide +kernel⟩
theorem ok_lchoices {f : Addr} {fd : FuncData} (F : Fun K "_law_choices" "_law_choices" s_lchoices f fd) (T : Tx mg) : FnOk P w K mg base CX0 1 f fd ["_law_face_here"] (sp_lchoices K) := by
  have sc := sc_lchoices
  refine F.ok sc (len_lchoices K) (fun cdv A outer s H vs Q E hr h => ⟨t_lchoices K, ?_, rd_lchoices h⟩)
  exact (pss_cons (ps_set (i := 1) sc.nd rfl (.inl rfl) (pe_lst pa_nil))
      (pss_cons (ps_for PassesOwn.never rfl (pi_range1 (by rfl) T.b_range (pa_cons (pe_op o_shl pe_int (pe_callB cr_len (by rfl) T.b_len (by decide +kernel) (pa_cons (pv 0) pa_nil))) pa_nil)) (pg_name (i := 2) sc.nd rfl (.inr rfl))
      (pss_cons (ps_set (i := 3) sc.nd rfl (.inl rfl) (pe_callTy cr_tuple (by rfl) T.b_tuple (by decide +kernel) (pa_cons (pe_lc (own := [("_law_k", 4)]) (by rfl) sc.nd (pi_range1 (by rfl) T.b_range (pa_cons (pe_callB cr_len (by rfl) T.b_len (by decide +kernel) (pa_cons (pv 0) pa_nil)) pa_nil)) (blkOk_by (own := [("_law_k", 4)]) (N := N_lchoices) (sc := defScope s_lchoices) (by decide +kernel)) (fun _ _ _ _ _ => (pg_name (i := 4) sc.nd rfl (.inl rfl))) (fun _ _ _ _ _ => (pts_one (pt_cmpR op_eq (pe_op o_and (pe_op o_shr (pv 2) (pv 4)) pe_int) pe_int (nomark _)))) (fun _ _ _ _ _ => (pe_ix ix_tup (pv 0) (pv 4) (fun _ _ => rfl)))) pa_nil)))
      (pss_one (ps_expr (pe_bm PySem.F.plainAttrs_list PySem.F.slot_list_append PySem.F.type_list_append mt_append (pv 1) (pa_cons (pe_tup (pa_cons (pe_callB cr_len (by rfl) T.b_len (by decide +kernel) (pa_cons (pv 3) pa_nil)) (pa_cons (pv 3) pa_nil))) pa_nil))))))
      (pss_one (ps_ret (pe_lc (own := [("_law_size", 5), ("_law_choice", 3)]) (by rfl) sc.nd (pi_list (pe_callB (cr_sortD hr.units) (by rfl) T.b_sorted (by decide +kernel) (pa_cons (pv 1) pa_nil))) (blkOk_by (own := [("_law_size", 5), ("_law_choice", 3)]) (N := N_lchoices) (sc := defScope s_lchoices) (by decide +kernel)) (fun _ _ _ _ _ => (pg_tup rfl (pgs_cons (pg_name (i := 5) sc.nd rfl (.inl rfl)) (pgs_cons (pg_name (i := 3) sc.nd rfl (.inl rfl)) pgs_nil)))) (fun _ _ _ _ _ => pts_nil) (fun _ _ _ _ _ => (pv 3)))))))

abbrev s_llesser : Stmt := topS 11
abbrev N_llesser : List Str := ["_law_face_here", "_law_k"]
theorem sc_llesser : FnScope N_llesser ["_law_face_here"] (defScope s_llesser) := ⟨rfl, rfl, rfl, by decide +kernel, rfl, by decide +kernel, by decide +kernel⟩
theorem ok_llesser {f : Addr} {fd : FuncData} (F : Fun K "_law_lesser" "_law_lesser" s_llesser f fd) (T : Tx mg) : FnOk P w K mg base CX0 1 f fd ["_law_face_here"] (sp_llesser K) := by
  have sc := sc_llesser
  refine F.ok sc (len_llesser K) (fun cdv A outer s H vs Q E hr h => ⟨t_llesser K, ?_, rd_llesser h⟩)
  exact (pss_one (ps_ret (pe_lc (own := [("_law_k", 1)]) (by rfl) sc.nd (pi_range1 (by rfl) T.b_range (pa_cons (pe_callB cr_len (by rfl) T.b_len (by decide +kernel) (pa_cons (pv 0) pa_nil)) pa_nil)) (blkOk_by (own := [("_law_k", 1)]) (N := N_llesser) (sc := defScope s_llesser) (by decide +kernel)) (fun _ _ _ _ _ => (pg_name (i := 1) sc.nd rfl (.inl rfl))) (fun _ _ _ _ _ => pts_nil) (fun _ _ _ _ _ => (pe_op op_catA (pe_slice sl_tupA (pv 0) po_none (po_some (pv 1))) (pe_slice sl_tupA (pv 0) (po_some (pe_op o_add (pv 1) pe_int)) po_none))))))

abbrev s_law : Stmt := topS 12
abbrev N_law : List Str := ["_law_script", "_law_pen", "_law_k", "_law_face_here", "_law_turn", "_law_found", "_law_lesser_here", "_law_j"]
theorem sc_law : FnScope N_law ["_law_script"] (defScope s_law) := ⟨rfl, rfl, rfl, by decide +kernel, rfl, by decide +kernel, by decide +kernel⟩
theorem ok_law {f : Addr} {fd : FuncData} (F : Fun K "law" "law" s_law f fd) (T : Tx mg) (h_lface : Has P w K mg base "_law_face" ["_law_pen", "_law_most"] 4 (sp_lface K)) (h_ldraw : Has P w K mg base "_law_draw" ["_law_pen", "_law_many"] 1 (sp_ldraw K)) (h_faces_in : Has P w K mg base "faces_in" ["face"] 1 (sp_faces_in K)) (h_lchoices : Has P w K mg base "_law_choices" ["_law_face_here"] 1 (sp_lchoices K)) (h_sides_of : Has P w K mg base "sides_of" ["face"] 2 (sp_sides_of K)) (h_llesser : Has P w K mg base "_law_lesser" ["_law_face_here"] 1 (sp_llesser K)) : FnG P w K mg base 5 f fd ["_law_script"] (sp_law K) := by
  have sc := sc_law
  refine okG F sc (len_law K) (fun cdv A outer s H vs Q E hg hr h => ⟨t_law K, ?_, rd_law h⟩)
  exact (pss_cons (ps_set (i := 1) sc.nd rfl (.inr rfl) (pe_lst (pa_cons (pv 0) (pa_cons pe_int (pa_cons pe_int pa_nil)))))
      (pss_cons (ps_for PassesOwn.never rfl (pi_range1 (by rfl) T.b_range (pa_cons pe_int pa_nil)) (pg_name (i := 2) sc.nd rfl (.inl rfl))
      (pss_cons (ps_set (i := 3) sc.nd rfl (.inl rfl) (pe_h h_lface (hr.mono (by decide)) (by rfl) (pa_cons (pv 1) (pa_cons pe_int pa_nil))))
      (pss_cut (ps_if (pt_cmpR o_gt (pv 2) pe_int (nomark _)) (pss_one (ps_set (i := 3) sc.nd rfl (.inl rfl) (pe_callTy cr_tuple (by rfl) T.b_tuple (by decide +kernel) (pa_cons (pe_lc (own := [("_law_j", 7)]) (by rfl) sc.nd (pi_range1 (by rfl) T.b_range (pa_cons pe_int pa_nil)) (blkOk_by (own := [("_law_j", 7)]) (N := N_law) (sc := defScope s_law) (by decide +kernel)) (fun _ _ _ _ _ => (pg_name (i := 7) sc.nd rfl (.inl rfl))) (fun _ _ _ _ _ => pts_nil) (fun _ _ _ _ _ => (pe_op o_add (pe_h h_ldraw (hr.mono (by decide)) (by rfl) (pa_cons (pv 1) (pa_cons pe_int pa_nil))) (pe_op o_mul pe_int (pv 7))))) pa_nil)))) pss_nil)
      (pss_one (ps_for PassesOwn.never rfl (pi_range1 (by rfl) T.b_range (pa_cons pe_int pa_nil)) (pg_name (i := 4) sc.nd rfl (.inl rfl))
      (pss_cons (ps_set (i := 5) sc.nd rfl (.inl rfl) (pe_h h_faces_in (hr.mono (by decide)) (by rfl) (pa_cons (pv 3) pa_nil)))
      (pss_cons (ps_if (pt_cmpR op_ne (pe_callB (call_reprD hg hr.units) (by rfl) T.b_repr (by decide +kernel) (pa_cons (pv 5) pa_nil)) (pe_callB (call_reprD hg hr.units) (by rfl) T.b_repr (by decide +kernel) (pa_cons (pe_h h_lchoices (hr.mono (by decide)) (by rfl) (pa_cons (pv 3) pa_nil)) pa_nil)) (nomark _)) (pss_one (ps_ret pe_bl)) pss_nil)
      (pss_cons (ps_set (i := 6) sc.nd rfl (.inl rfl) (pe_h h_sides_of (hr.mono (by decide)) (by rfl) (pa_cons (pv 3) pa_nil)))
      (pss_cons (ps_if (pt_cmpR op_ne (pe_callB (call_reprD hg hr.units) (by rfl) T.b_repr (by decide +kernel) (pa_cons (pv 6) pa_nil)) (pe_callB (call_reprD hg hr.units) (by rfl) T.b_repr (by decide +kernel) (pa_cons (pe_h h_llesser (hr.mono (by decide)) (by rfl) (pa_cons (pv 3) pa_nil)) pa_nil)) (nomark _)) (pss_one (ps_ret pe_bl)) pss_nil)
      (pss_cons (ps_expr (pe_bm0 PySem.F.plainAttrs_list PySem.F.slot_list_reverse PySem.F.type_list_reverse mt_reverse (pv 5)))
      (pss_cons (ps_expr (pe_bm PySem.F.plainAttrs_list PySem.F.slot_list_append PySem.F.type_list_append mt_append (pv 5) (pa_cons pe_non pa_nil)))
      (pss_cons (ps_expr (pe_bm PySem.F.plainAttrs_list PySem.F.slot_list_append PySem.F.type_list_append mt_append (pv 6) (pa_cons (pv 3) pa_nil)))
      (pss_one (ps_expr (pe_bm0 PySem.F.plainAttrs_list PySem.F.slot_list_reverse PySem.F.type_list_reverse mt_reverse (pv 6))))))))))))))))
      (pss_one (ps_ret (pe_and (pe_cmpR (op_eqD hr.units) (pe_h h_faces_in (hr.mono (by decide)) (by rfl) (pa_cons (pe_tup pa_nil) pa_nil)) (pe_lst (pa_cons (pe_tup pa_nil) pa_nil)) (nomark _)) (pe_one (pe_cmpR (op_eqD hr.units) (pe_h h_sides_of (hr.mono (by decide)) (by rfl) (pa_cons (pe_tup pa_nil) pa_nil)) (pe_lst pa_nil) (nomark _))))))))

end
/-! ## what the top has left -/
theorem all_mk {l : PySem.W.OpenLaw} {w : World} {K : PySem.W.Frag} {h : Heap} {mg : Str → Option Value} {fa f0 f1 f2 f3 f4 f5 f6 f7 f8 f9 f10 : Addr} (X : K.In h) (G : h.Ns mainGlobals mg) (hfa : mg "law" = some (.ref fa))
    {od0 an0 od1 an1 od2 an2 od3 an3 od4 an4 od5 an5 od6 an6 od7 an7 od8 an8 od9 an9 od10 an10 : Option Addr} {sl0 sl1 sl2 sl3 sl4 sl5 sl6 sl7 sl8 sl9 sl10 : Array (Option Value)} {oc0 kV0 dc0 pm0 cd0 ct0 oc1 kV1 dc1 pm1 cd1 ct1 oc2 kV2 dc2 pm2 cd2 ct2 oc3 kV3 dc3 pm3 cd3 ct3 oc4 kV4 dc4 pm4 cd4 ct4 oc5 kV5 dc5 pm5 cd5 ct5 oc6 kV6 dc6 pm6 cd6 ct6 oc7 kV7 dc7 pm7 cd7 ct7 oc8 kV8 dc8 pm8 cd8 ct8 oc9 kV9 dc9 pm9 cd9 ct9 oc10 kV10 dc10 pm10 cd10 ct10 : Value}
    (a0 : PySem.W.nsIn K mainGlobals "by_size" = some (some (.ref f0))) (l0 : K.lookup f0 = some ⟨oc0, od0, .func (PySem.W.fnOf "by_size" "by_size" (defArgs s_by_size) (defBody s_by_size) (defScope s_by_size) .none kV0 dc0 pm0 an0 cd0 ct0), sl0⟩) (c0 : PySem.W.codeIn K cd0 "by_size" = true) (k0 : PySem.W.keepIn K (.ref f0) = true)
    (a1 : PySem.W.nsIn K mainGlobals "without" = some (some (.ref f1))) (l1 : K.lookup f1 = some ⟨oc1, od1, .func (PySem.W.fnOf "without" "without" (defArgs s_without) (defBody s_without) (defScope s_without) .none kV1 dc1 pm1 an1 cd1 ct1), sl1⟩) (c1 : PySem.W.codeIn K cd1 "without" = true) (k1 : PySem.W.keepIn K (.ref f1) = true)
    (a2 : PySem.W.nsIn K mainGlobals "faces_in" = some (some (.ref f2))) (l2 : K.lookup f2 = some ⟨oc2, od2, .func (PySem.W.fnOf "faces_in" "faces_in" (defArgs s_faces_in) (defBody s_faces_in) (defScope s_faces_in) .none kV2 dc2 pm2 an2 cd2 ct2), sl2⟩) (c2 : PySem.W.codeIn K cd2 "faces_in" = true) (k2 : PySem.W.keepIn K (.ref f2) = true)
    (a3 : PySem.W.nsIn K mainGlobals "sides_of" = some (some (.ref f3))) (l3 : K.lookup f3 = some ⟨oc3, od3, .func (PySem.W.fnOf "sides_of" "sides_of" (defArgs s_sides_of) (defBody s_sides_of) (defScope s_sides_of) .none kV3 dc3 pm3 an3 cd3 ct3), sl3⟩) (c3 : PySem.W.codeIn K cd3 "sides_of" = true) (k3 : PySem.W.keepIn K (.ref f3) = true)
    (a4 : PySem.W.nsIn K mainGlobals "_law_draw" = some (some (.ref f4))) (l4 : K.lookup f4 = some ⟨oc4, od4, .func (PySem.W.fnOf "_law_draw" "_law_draw" (defArgs s_ldraw) (defBody s_ldraw) (defScope s_ldraw) .none kV4 dc4 pm4 an4 cd4 ct4), sl4⟩) (c4 : PySem.W.codeIn K cd4 "_law_draw" = true) (k4 : PySem.W.keepIn K (.ref f4) = true)
    (a5 : PySem.W.nsIn K mainGlobals "_law_wide" = some (some (.ref f5))) (l5 : K.lookup f5 = some ⟨oc5, od5, .func (PySem.W.fnOf "_law_wide" "_law_wide" (defArgs s_lwide) (defBody s_lwide) (defScope s_lwide) .none kV5 dc5 pm5 an5 cd5 ct5), sl5⟩) (c5 : PySem.W.codeIn K cd5 "_law_wide" = true) (k5 : PySem.W.keepIn K (.ref f5) = true)
    (a6 : PySem.W.nsIn K mainGlobals "_law_corner" = some (some (.ref f6))) (l6 : K.lookup f6 = some ⟨oc6, od6, .func (PySem.W.fnOf "_law_corner" "_law_corner" (defArgs s_lcorner) (defBody s_lcorner) (defScope s_lcorner) .none kV6 dc6 pm6 an6 cd6 ct6), sl6⟩) (c6 : PySem.W.codeIn K cd6 "_law_corner" = true) (k6 : PySem.W.keepIn K (.ref f6) = true)
    (a7 : PySem.W.nsIn K mainGlobals "_law_face" = some (some (.ref f7))) (l7 : K.lookup f7 = some ⟨oc7, od7, .func (PySem.W.fnOf "_law_face" "_law_face" (defArgs s_lface) (defBody s_lface) (defScope s_lface) .none kV7 dc7 pm7 an7 cd7 ct7), sl7⟩) (c7 : PySem.W.codeIn K cd7 "_law_face" = true) (k7 : PySem.W.keepIn K (.ref f7) = true)
    (a8 : PySem.W.nsIn K mainGlobals "_law_choices" = some (some (.ref f8))) (l8 : K.lookup f8 = some ⟨oc8, od8, .func (PySem.W.fnOf "_law_choices" "_law_choices" (defArgs s_lchoices) (defBody s_lchoices) (defScope s_lchoices) .none kV8 dc8 pm8 an8 cd8 ct8), sl8⟩) (c8 : PySem.W.codeIn K cd8 "_law_choices" = true) (k8 : PySem.W.keepIn K (.ref f8) = true)
    (a9 : PySem.W.nsIn K mainGlobals "_law_lesser" = some (some (.ref f9))) (l9 : K.lookup f9 = some ⟨oc9, od9, .func (PySem.W.fnOf "_law_lesser" "_law_lesser" (defArgs s_llesser) (defBody s_llesser) (defScope s_llesser) .none kV9 dc9 pm9 an9 cd9 ct9), sl9⟩) (c9 : PySem.W.codeIn K cd9 "_law_lesser" = true) (k9 : PySem.W.keepIn K (.ref f9) = true)
    (a10 : PySem.W.nsIn K mainGlobals "law" = some (some (.ref f10))) (l10 : K.lookup f10 = some ⟨oc10, od10, .func (PySem.W.fnOf "law" "law" (defArgs s_law) (defBody s_law) (defScope s_law) .none kV10 dc10 pm10 an10 cd10 ct10), sl10⟩) (c10 : PySem.W.codeIn K cd10 "law" = true) (k10 : PySem.W.keepIn K (.ref f10) = true)
    (z0 : PySem.W.nsIn K mainGlobals "len" = some none)
    (z1 : PySem.W.nsIn K mainGlobals "tuple" = some none)
    (z2 : PySem.W.nsIn K mainGlobals "sorted" = some none)
    (z3 : PySem.W.nsIn K mainGlobals "abs" = some none)
    (z4 : PySem.W.nsIn K mainGlobals "str" = some none)
    (z5 : PySem.W.nsIn K mainGlobals "range" = some none)
    (z6 : PySem.W.nsIn K mainGlobals "set" = some none)
    (z7 : PySem.W.nsIn K mainGlobals "repr" = some none) :
    ∃ fd : FuncData, (∀ (s : Shared) (v : Value), BindsTo s fd ⟨[v], []⟩ [("_law_script", v)]) ∧ ∀ base : Heap, K.In base → base.Ns mainGlobals mg → FnG l.prog w K mg base 5 fa fd ["_law_script"] (sp_law K) := by
  have e := hfa.symm.trans (PySem.W.mg_of X G a10)
  cases e
  have T : Tx mg := ⟨PySem.W.mg_none_of X G z0, PySem.W.mg_none_of X G z1, PySem.W.mg_none_of X G z2, PySem.W.mg_none_of X G z3, PySem.W.mg_none_of X G z4, PySem.W.mg_none_of X G z5, PySem.W.mg_none_of X G z6, PySem.W.mg_none_of X G z7⟩
  have F0 := fun_mk (st := s_by_size) l0 c0 k0
  have F1 := fun_mk (st := s_without) l1 c1 k1
  have b1 := F1.binds (ps := ["face", "corner"]) fun _ _ _ _ _ _ us hl => match us, hl with | [_, _], _ => rfl
  have F2 := fun_mk (st := s_faces_in) l2 c2 k2
  have b2 := F2.binds (ps := ["face"]) fun _ _ _ _ _ _ us hl => match us, hl with | [_], _ => rfl
  have F3 := fun_mk (st := s_sides_of) l3 c3 k3
  have b3 := F3.binds (ps := ["face"]) fun _ _ _ _ _ _ us hl => match us, hl with | [_], _ => rfl
  have F4 := fun_mk (st := s_ldraw) l4 c4 k4
  have b4 := F4.binds (ps := ["_law_pen", "_law_many"]) fun _ _ _ _ _ _ us hl => match us, hl with | [_, _], _ => rfl
  have F5 := fun_mk (st := s_lwide) l5 c5 k5
  have b5 := F5.binds (ps := ["_law_pen", "_law_many"]) fun _ _ _ _ _ _ us hl => match us, hl with | [_, _], _ => rfl
  have F6 := fun_mk (st := s_lcorner) l6 c6 k6
  have b6 := F6.binds (ps := ["_law_pen"]) fun _ _ _ _ _ _ us hl => match us, hl with | [_], _ => rfl
  have F7 := fun_mk (st := s_lface) l7 c7 k7
  have b7 := F7.binds (ps := ["_law_pen", "_law_most"]) fun _ _ _ _ _ _ us hl => match us, hl with | [_, _], _ => rfl
  have F8 := fun_mk (st := s_lchoices) l8 c8 k8
  have b8 := F8.binds (ps := ["_law_face_here"]) fun _ _ _ _ _ _ us hl => match us, hl with | [_], _ => rfl
  have F9 := fun_mk (st := s_llesser) l9 c9 k9
  have b9 := F9.binds (ps := ["_law_face_here"]) fun _ _ _ _ _ _ us hl => match us, hl with | [_], _ => rfl
  have F10 := fun_mk (st := s_law) l10 c10 k10
  have b10 := F10.binds (ps := ["_law_script"]) fun _ _ _ _ _ _ us hl => match us, hl with | [_], _ => rfl
  refine ⟨PySem.W.fnOf "law" "law" (defArgs s_law) (defBody s_law) (defScope s_law) .none kV10 dc10 pm10 an10 cd10 ct10, fun s v => BindsTo.of_eq rfl, fun base _ _ => ?_⟩
  have H1 : Has l.prog w K mg base "without" ["face", "corner"] 1 (sp_without K) := ⟨f1, _, PySem.W.mg_of X G a1, k1, b1, ok_without F1 T⟩
  have H2 : Has l.prog w K mg base "faces_in" ["face"] 1 (sp_faces_in K) := ⟨f2, _, PySem.W.mg_of X G a2, k2, b2, ok_faces_in F2 T (PySem.W.mg_of X G a0) F0⟩
  have H3 : Has l.prog w K mg base "sides_of" ["face"] 2 (sp_sides_of K) := ⟨f3, _, PySem.W.mg_of X G a3, k3, b3, ok_sides_of F3 T H1⟩
  have H4 : Has l.prog w K mg base "_law_draw" ["_law_pen", "_law_many"] 1 (sp_ldraw K) := ⟨f4, _, PySem.W.mg_of X G a4, k4, b4, ok_ldraw F4 T⟩
  have H5 : Has l.prog w K mg base "_law_wide" ["_law_pen", "_law_many"] 2 (sp_lwide K) := ⟨f5, _, PySem.W.mg_of X G a5, k5, b5, ok_lwide F5 T H4⟩
  have H6 : Has l.prog w K mg base "_law_corner" ["_law_pen"] 3 (sp_lcorner K) := ⟨f6, _, PySem.W.mg_of X G a6, k6, b6, ok_lcorner F6 T H4 H5⟩
  have H7 : Has l.prog w K mg base "_law_face" ["_law_pen", "_law_most"] 4 (sp_lface K) := ⟨f7, _, PySem.W.mg_of X G a7, k7, b7, ok_lface F7 T H4 H6⟩
  have H8 : Has l.prog w K mg base "_law_choices" ["_law_face_here"] 1 (sp_lchoices K) := ⟨f8, _, PySem.W.mg_of X G a8, k8, b8, ok_lchoices F8 T⟩
  have H9 : Has l.prog w K mg base "_law_lesser" ["_law_face_here"] 1 (sp_llesser K) := ⟨f9, _, PySem.W.mg_of X G a9, k9, b9, ok_llesser F9 T⟩
  exact ok_law F10 T H7 H4 H2 H8 H3 H9

end Ws

open PySem PySem.W PyProof.Rows in
set_option maxRecDepth 100000 in
set_option maxHeartbeats 0 in
theorem PySem.Challenge.cw_wholesides_k04_faces_in_a_face_holds : PySem.Challenge.rw_wholesides_k04_faces_in_a_face.Holds := by
  w_on; o_law; k_head; (case hw => w_witness2)
  k_fill
  refine Ws.walkG (l := PySem.Challenge.rw_wholesides_k04_faces_in_a_face) (n := 63) (k := 5) (x := "_law_script") (sp := fun w => Ws.sp_law _) rfl (by decide) rfl ⟨rfl, by decide, by decide⟩ (fun w h Y => PySem.W.kIn_of Y) ?F (fun w H a ns hl hS hH => ⟨a, ns, rfl, Ws.fz_of hS hH, fun _ => rfl⟩)
  case F =>
    intro w mg fa h KX G hmg
    refine' Ws.all_mk KX G hmg ?a0 ?l0 ?c0 ?k0 ?a1 ?l1 ?c1 ?k1 ?a2 ?l2 ?c2 ?k2 ?a3 ?l3 ?c3 ?k3 ?a4 ?l4 ?c4 ?k4 ?a5 ?l5 ?c5 ?k5 ?a6 ?l6 ?c6 ?k6 ?a7 ?l7 ?c7 ?k7 ?a8 ?l8 ?c8 ?k8 ?a9 ?l9 ?c9 ?k9 ?a10 ?l10 ?c10 ?k10 ?z0 ?z1 ?z2 ?z3 ?z4 ?z5 ?z6 ?z7
    (case a0 => k_is)
    (case l0 => k_is)
    (case c0 => k_is)
    (case k0 => k_is)
    (case a1 => k_is)
    (case l1 => k_is)
    (case c1 => k_is)
    (case k1 => k_is)
    (case a2 => k_is)
    (case l2 => k_is)
    (case c2 => k_is)
    (case k2 => k_is)
    (case a3 => k_is)
    (case l3 => k_is)
    (case c3 => k_is)
    (case k3 => k_is)
    (case a4 => k_is)
    (case l4 => k_is)
    (case c4 => k_is)
    (case k4 => k_is)
    (case a5 => k_is)
    (case l5 => k_is)
    (case c5 => k_is)
    (case k5 => k_is)
    (case a6 => k_is)
    (case l6 => k_is)
    (case c6 => k_is)
    (case k6 => k_is)
    (case a7 => k_is)
    (case l7 => k_is)
    (case c7 => k_is)
    (case k7 => k_is)
    (case a8 => k_is)
    (case l8 => k_is)
    (case c8 => k_is)
    (case k8 => k_is)
    (case a9 => k_is)
    (case l9 => k_is)
    (case c9 => k_is)
    (case k9 => k_is)
    (case a10 => k_is)
    (case l10 => k_is)
    (case c10 => k_is)
    (case k10 => k_is)
    (case z0 => k_is)
    (case z1 => k_is)
    (case z2 => k_is)
    (case z3 => k_is)
    (case z4 => k_is)
    (case z5 => k_is)
    (case z6 => k_is)
    (case z7 => k_is)


