import PyProof.Rows.All
import Wide.All
import OpenK.AllK
import Wide.FinOn
import HandS.ForMost
import HandS.ForExc
import HandS.IsInst
import HandS.ExcInit
import HandS.ExcField
import HandS.ExcIs
import KE.KExcSuper
import HandS.Wide
import HandS.Walk
import PySem.Challenge.RW_tagless_k13_errors_with_any_value
section
set_option Elab.async false
set_option linter.all false
set_option maxRecDepth 100000
set_option maxHeartbeats 4000000
/-! Tg, part A: promises of defs where no repr runs around (so that repr can be asked), and the law's end over them. -/
namespace Tg
open PySem PySem.Spec PyProof.Rows L2

structure FnG (P : Program) (w : World) (K : PySem.W.Frag) (mg : Str → Option Value) (base : Heap) (CX : CXT) (k : Nat) (f : Addr) (fd : FuncData) (ps : List Str) (sp : Sp) : Prop where
  len : ∀ vs H Q E, sp vs H Q E → vs.length = ps.length
  go : ∀ (A : Around) (fr : List Env) (s : Shared) (H : Hp) (ag : Args) (us : List Value) (vs : List V) (Q : VK) (E : XK),
    A.guards = some [] → Room k A → Env0 P w K mg base A fr s H → BindsTo s fd ag (ps.zip us) → Vals vs us → sp vs H Q E →
      codeAny (model P w) A (.call (.ref f) ag) (CR CX fr P w H s Q E) s

section
variable {P : Program} {w : World} {K : PySem.W.Frag} {mg : Str → Option Value} {base : Heap} {CX : CXT} {k : Nat} {f : Addr} {fd : FuncData} {ps : List Str} {sp : Sp}

theorem FnG.of (F : FnOk P w K mg base CX k f fd ps sp) : FnG P w K mg base CX k f fd ps sp :=
  ⟨F.len, fun A fr s H ag us vs Q E _ => F.run A fr s H ag us vs Q E⟩

theorem FnG.mono {j : Nat} (F : FnG P w K mg base CX j f fd ps sp) (h : j ≤ k) : FnG P w K mg base CX k f fd ps sp :=
  ⟨F.len, fun A fr s H ag us vs Q E g r => F.go A fr s H ag us vs Q E g (r.mono h)⟩

theorem guards_deeper (A : Around) (env : Env) : (A.deeper env).guards = A.guards := rfl
end

section
variable {P : Program} {w : World} {K : PySem.W.Frag} {mg : Str → Option Value} {base : Heap}

/-- a def by its body -/
theorem fnG_of {CX : CXT} {k : Nat} {f : Addr} {nm ql : Str} {pa : Arguments} {bd : List Stmt} {sc : Scope} {dV kV dc pm cd ct oc : Value} {an od : Option Addr} {sl : Array (Option Value)} {N ps : List Str} {sp : Sp}
    (lk : K.lookup f = some ⟨oc, od, .func (PySem.W.fnOf nm ql pa bd sc dV kV dc pm an cd ct), sl⟩) (hcd : PySem.W.codeIn K cd ql = true) (S : FnScope N ps sc) (len : ∀ vs H Q E, sp vs H Q E → vs.length = ps.length)
    (hb : ∀ (A : Around) (fr : List Env) (s : Shared) (H : Hp) (vs : List V) (Q : VK) (E : XK), A.guards = some [] → Room k (A.deeper (envOfC ql sc s.heap.objs.size f cd)) → sp vs H Q E →
      ∃ t, PSs (cxOf CX P w K mg base N ql sc f cd A fr s H E) bd t ∧ t { nx := fun _ H' => Q .non H', rt := Q } (start N vs) H) :
    FnG P w K mg base CX (k + 1) f (PySem.W.fnOf nm ql pa bd sc dV kV dc pm an cd ct) ps sp := by
  constructor
  · exact len
  intro A fr s H ag us vs Q E hgd room en bnd rel hsp
  have hlen : vs.length = ps.length := len _ _ _ _ hsp
  have stays : ∀ b o, base.get? b = some o → s.heap.get? b = some o := fun b o e => (en.bs b o e).1
  have inK : K.In s.heap := en.mod.kin.keeps stays
  have noLim : s.heap.NoLimit := en.mod.nolimit.keeps stays
  have kinds : ∀ y ∈ ps.zip us, sc.names.lookup y.1 = some .local ∨ (sc.names.lookup y.1 = some .cell ∧ ((cellsFrom (s.heap.objs.size + 1) sc.names []).lookup y.1).isSome = true) := by
    intro y hy
    have hm : y.1 ∈ ps := (List.of_mem_zip (show (y.1, y.2) ∈ ps.zip us from hy)).1
    cases S.par y.1 hm with
    | inl q => exact .inl q
    | inr q => exact .inr ⟨q, PySem.W.cellsFrom_some _ _ _ (.inl q)⟩
  apply codeAny_call_function room.depth (inK _ _ lk) rfl S.co S.gen rfl (PySem.W.codeRec_of inK hcd)
  apply bnd
  apply wpAny_newFunctionEnv_cells S.kind kinds
  intro env he s1 x
  subst he
  constructor
  · exact noLim.keeps x.toInCall.keep
  apply codeAny_func
  obtain ⟨t, ht, hq⟩ := hb A fr s H vs Q E hgd (room.deeper _) hsp
  have inv : Inv (cxOf CX P w K mg base N ql sc f cd A fr s H E) [] (start N vs) H s1 := inv_start S room.hd en hlen rel x
  have ran := ht.run [] s1 (start N vs) H _ inv hq
  apply wpAny_mono ran
  · intro fl s' hs
    have ends : ∀ {σ' : L2.St} {H' : Hp} {v : V} {u : Value}, Inv (cxOf CX P w K mg base N ql sc f cd A fr s H E) [] σ' H' s' → RelV v u → Q v H' → CE fr P w H s Q u s' :=
      fun {_ H' v _} J rv q => ⟨v, H', J.os, J.bare, J.base, J.hok, rv, q⟩
    match fl, hs with
    | .ret u, ⟨v, σ', H', J, rv, q⟩ => exact ends J rv q
    | .next, ⟨σ', H', J, q⟩ => exact ends (v := V.non) (u := Value.none) J rfl q
    | .brk, ⟨_, _, _, q⟩ => exact q.elim
    | .cont, ⟨_, _, _, q⟩ => exact q.elim
  · exact fun e s' hs => hs

/-- .. of the text's own def, from which nothing is raised -/
theorem funG {x ql : Str} {st : Stmt} {f : Addr} {fd : FuncData} {N ps : List Str} {k : Nat} {sp : Sp} (F : Fun K x ql st f fd) (S : FnScope N ps (defScope st)) (len : ∀ vs H Q E, sp vs H Q E → vs.length = ps.length)
    (hb : ∀ (cd : Value) (A : Around) (fr : List Env) (s : Shared) (H : Hp) (vs : List V) (Q : VK) (E : XK), A.guards = some [] → Room k (A.deeper (envOfC ql (defScope st) s.heap.objs.size f cd)) → sp vs H Q E →
      ∃ t, PSs (cxOf CX0 P w K mg base N ql (defScope st) f cd A fr s H E).nox (defBody st) t ∧ t { nx := fun _ H' => Q .non H', rt := Q } (start N vs) H) : FnG P w K mg base CX0 (k + 1) f fd ps sp := by
  obtain ⟨_, _, _, _, _, _, cd, _, _, rfl, lk, hc⟩ := F.ex
  exact fnG_of lk hc S len fun A fr s H vs Q E hg hr hsp => by
    obtain ⟨t, h, q⟩ := hb cd A fr s H vs Q E hg hr hsp
    exact ⟨t, h.nox, q⟩
end

section
variable {X : Cx} {CX : CXT} {k : Nat} {f : Addr} {fd : FuncData} {ps : List Str} {sp : Sp} {dvs : List V} {ds : List Value} {E : XK} {x : Str} {p pos : Pos} {e : Expr} {es : List Expr} {t : TA}
/-- f(e, ..), such a def -/
theorem pe_callG (F : FnG X.prog X.w X.K X.mg X.base CX k f fd ps sp) (hgd : X.A.guards = some []) (hr : Room k X.A) (hg : Gl X x) (hm : X.mg x = some (.ref f)) (hk : PySem.W.keepIn X.K (.ref f) = true) (hb : Binds X.K fd ps ds) (hd : Vals dvs ds)
    (hx : Passes CX X E) (ha : PA X (e :: es) t) (hdb : (x == ("__debug__" : Str)) = false := by decide)
    (he : starEach (e :: es) X.env = (false, eval e X.env) :: starEach es X.env := by rfl) (hpl : (backTo pos (starEach es X.env)).any (·.1) = false := by rfl) :
    PE X (.Call (.Name x p) (e :: es) [] pos) (tCall sp dvs E t) := by
  constructor
  intro pins s σ H Q I h
  apply wpAny_Call_Name_kw
  apply ld_glob I hg hm _ hdb
  refine PySem.W.callWith_K (h₀ := X.base) I.ok.mod.kin hk (thn (ha.run pos pins s σ H _ I h) ?_) he hpl
  rintro us s1 ⟨vs, H1, I1, rel, q⟩
  refine ⟨I1.kIn, wpAny_call ?_⟩
  have rel2 : Vals (vs ++ dvs) (us ++ ds) := rel.append hd
  have hl : (us ++ ds).length = ps.length := (rel2.length).symm.trans (F.len _ _ _ _ q)
  have ran := F.go X.A X.stack s1 H1 ⟨us, []⟩ (us ++ ds) (vs ++ dvs) Q E hgd hr I1.env0 (hb s1 us I1.kIn hl) rel2 q
  refine codeAny_mono ran ?_
  intro r s' hq
  match r, hq with
  | .error er, hq => exact hx pins σ H1 s1 er s' I1 hq
  | .ok (.ret u), hq => exact I1.after hq
  | .ok .next, hq => exact False.elim hq
  | .ok .brk, hq => exact False.elim hq
  | .ok .cont, hq => exact False.elim hq
end

/-- the law's def over the heap behind the top -/
theorem lawG {P : Program} {w : World} {K : PySem.W.Frag} {mg mb : Str → Option Value} {CX : CXT} {k : Nat} {fa a : Addr} {fd : FuncData} {x : Str} {sp : Sp} {s₁ : Shared} {us : List Value} {ns : List Int}
    (inK : K.In s₁.heap) (gns : s₁.heap.Ns mainGlobals mg) (bns : s₁.heap.Ns builtinsNs mb) (bbt : ∀ x : Str, x ≠ "__name__" → mb x = bootBuiltins x) (lim : s₁.heap.NoLimit) (gens : s₁.gens = #[])
    (ha : s₁.heap.get? a = some { cls := .type "list", data := .seq us.toArray }) (hi : IntsAre us ns) (hl : ns.length ≤ sizeLine) (room : Room k callerA)
    (F : ∀ base : Heap, K.In base → base.Ns mainGlobals mg → FnG P w K mg base CX k fa fd [x] sp) (bnd : ∀ (s : Shared) (u : Value), BindsTo s fd ⟨[u], []⟩ [(x, u)])
    (hsp : ∀ H : Hp, Only H → SqL K H a (ns.map V.int) → sp [.ref a] H (fun v _ => v = .bl true) fun _ _ _ => False)
    (noX : ∀ H e s', CX [] H s₁ (fun _ _ _ => False) e s' → False) :
    codeAny (model P w) callerA (.call (.ref fa) ⟨[.ref a], []⟩) (fun r s' => r = .ok (.ret (.bool true)) ∧ OldK s₁.heap s'.heap ∧ s'.os = s₁.os ∧ AllBare s'.gens) s₁ := by
  have relI : Vals (ns.map V.int) us := vals_ints hi
  have lenI := hi.length
  suffices main : ∀ H : Hp, Only H → SqL K H a (ns.map V.int) → HOk P w H s₁.heap → (∀ b u, H b = some u → b = a) → (∀ u, H a = some u → K.lookup a = none) →
      codeAny (model P w) callerA (.call (.ref fa) ⟨[.ref a], []⟩) (fun r s' => r = .ok (.ret (.bool true)) ∧ OldK s₁.heap s'.heap ∧ s'.os = s₁.os ∧ AllBare s'.gens) s₁ by
    cases known : K.lookup a with
    | none =>
      let o : Obj := { cls := .type "list", data := .seq us.toArray }
      let H : Hp := fun b => if b = a then some (.frz o (.lst (ns.map V.int))) else none
      have Ha : H a = some (.frz o (.lst (ns.map V.int))) := if_pos rfl
      have Hn : ∀ b, b ≠ a → H b = none := fun b hb => if_neg hb
      apply main H
      · intro b
        by_cases hb : b = a
        · subst hb; exact .inr ⟨_, _, Ha⟩
        · exact .inl (Hn b hb)
      · exact .inl (.inr ⟨o, Ha⟩)
      · intro b u z
        by_cases hb : b = a
        · subst hb
          rw [Ha] at z
          cases z
          exact ⟨ha, by rw [List.length_map]; exact hl, us, _, relI, ha⟩
        · rw [Hn b hb] at z
          cases z
      · intro b u z
        by_cases hb : b = a
        · exact hb
        · rw [Hn b hb] at z
          cases z
      · intro _ _
        exact known
    | some o =>
      have e := inK a o known
      rw [ha] at e
      cases e
      apply main fun _ => none
      · exact fun _ => .inl rfl
      · exact .inr ⟨_, us.toArray, _, known, rfl, rfl, rfl, by rw [List.size_toArray, lenI]; exact hl, by simpa using relI⟩
      · intro b u z; exact nomatch z
      · intro b u z; exact nomatch z
      · intro u z; exact nomatch z
  intro H only sq hok atA noK
  have kept : ∀ {b : Addr} {o : Obj}, s₁.heap.get? b = some o → H b = none → (hidT s₁.heap H).get? b = some o := fun e n => hidT_get e n
  have dictFree : ∀ {b : Addr} {o : Obj} {es : Array DictEntry} {ep : Nat}, s₁.heap.get? b = some o → o.data = .dict es ep → H b = none := by
    intro b o es ep e d
    cases q : H b with
    | none => rfl
    | some u =>
      have hb := atA b u q
      subst hb
      rw [ha] at e
      cases e
      exact nomatch (show Data.seq us.toArray _ = Data.dict es ep from d)
  have nsOf : ∀ {b : Addr} {m : Str → Option Value}, s₁.heap.Ns b m → (hidT s₁.heap H).Ns b m := by
    rintro b m ⟨o, es, ep, e, d, r⟩
    exact ⟨o, es, ep, kept e (dictFree e d), d, r⟩
  have inB : K.In (hidT s₁.heap H) := by
    intro b o e
    apply kept (inK b o e)
    cases q : H b with
    | none => rfl
    | some u =>
      have hb := atA b u q
      subst hb
      rw [noK u q] at e
      cases e
  obtain ⟨mc, l1, l2⟩ := lim
  have md : Mod K mg (hidT s₁.heap H) := ⟨inB, nsOf gns, ⟨mb, nsOf bns, bbt⟩, ⟨mc, nsOf l1, l2⟩⟩
  have none0 : ∀ b : Addr, b ∉ ([] : List Addr) := fun b => List.not_mem_nil
  have en : Env0 P w K mg (hidT s₁.heap H) callerA [] s₁ H :=
    ⟨rfl, md, fun b o e => of_hidT e, Nat.le_of_eq (hidT_size _ _), trivial, fun b hb => absurd hb (none0 b), hok, .of_eq gens⟩
  have ran := (F _ inB (nsOf gns)).go callerA [] s₁ H ⟨[.ref a], []⟩ [.ref a] [.ref a] _ _ rfl room en (bnd s₁ (.ref a)) (.cons rfl .nil) (hsp H only sq)
  refine codeAny_mono ran ?_
  intro r s' h
  match r, h with
  | .error er, h => exact (noX H er s' h).elim
  | .ok .next, h => exact False.elim h
  | .ok .brk, h => exact False.elim h
  | .ok .cont, h => exact False.elim h
  | .ok (.ret u), ⟨v, H', hos, bare, un, hok', rv, q⟩ =>
    have q' : v = .bl true := q
    subst q'
    have ru : u = Value.bool true := rv
    subst ru
    refine ⟨rfl, OldK.of_keep fun b o e => ?_, hos, bare⟩
    rcases only b with z | ⟨ob, xs, z⟩
    · exact un.keep b o e z (none0 b) (none0 b)
    · obtain ⟨e1, _⟩ := hok b _ z
      obtain ⟨e2, _⟩ := hok' b _ (un.frzs b ob _ z)
      exact e2.trans (e1.symm.trans e)

/-- the goal that k_head leaves -/
theorem walkG {l : PySem.W.OpenLaw} {n k : Nat} {q : Program} {loose : List Str} {XP : (Str → Option Value) → Heap → Prop} {YP : World → Heap → Prop} {d : DefRec} {K : Params → PySem.W.Frag} {CX : World → CXT} {sp : World → Sp} {x : Str}
    (hn : l.most = some n) (hz : n ≤ sizeLine) (hdf : d.params.defaults = []) (room : Room k callerA) (hY : ∀ (w : World) (h : Heap), YP w h → (K w.params).In h)
    (F : ∀ (w : World) (mg : Str → Option Value) (fa : Addr) (h : Heap), (K w.params).In h → h.Ns mainGlobals mg → mg d.name = some (.ref fa) →
      ∃ fd : FuncData, (∀ (s : Shared) (u : Value), BindsTo s fd ⟨[u], []⟩ [(x, u)]) ∧ ∀ base : Heap, (K w.params).In base → base.Ns mainGlobals mg → FnG l.prog w (K w.params) mg base (CX w) k fa fd [x] (sp w))
    (hsp : ∀ (w : World) (H : Hp) (a : Addr) (ns : List Int), ns.length ≤ n → Only H → SqL (K w.params) H a (ns.map V.int) → sp w [.ref a] H (fun v _ => v = .bl true) fun _ _ _ => False)
    (noX : ∀ (w : World) (H : Hp) (s : Shared) (e : Value) (s' : Shared), CX w [] H s (fun _ _ _ => False) e s' → False) :
    PySem.W.WalkO q loose XP YP l.row.toRowW d [] (fun f vs => PySem.call f vs) := by
  apply Att.attach_call hn hdf
  intro w s₀ s₁ mg mb fa o pm cd doc a vs ns G Y ho hd hcd hmg hobj hints hlen hg
  have inK := hY w _ Y
  obtain ⟨fd, bnd, hF⟩ := F w mg fa _ inK G.T.g hmg
  exact lawG inK G.T.g G.T.b G.T.builtins G.T.nolimit hg hobj hints (Nat.le_trans hlen hz) room hF bnd (fun H only sq => hsp w H a ns hlen only sq) fun H e s' => noX w H s₁ e s'
end Tg
end
section
set_option Elab.async false
set_option linter.all false
set_option maxRecDepth 100000
set_option maxHeartbeats 4000000
/-! Tg, part B: data that stands still (Rp), and repr of it. -/
namespace Tg
open PySem PySem.Spec PyProof.Rows L2

def kD : Key → PyData
  | .inl i => .int i
  | .inr x => .str x

mutual
/-- the value v is the data d, in lists and dicts that are locked for good -/
def Rp (H : Hp) : PyData → V → Prop
  | .none, v => v = .non
  | .bool b, v => v = .bl b
  | .int i, v => v = .int i
  | .str x, v => v = .str x
  | .list ds, v => ∃ a o xs, v = .ref a ∧ H a = some (.frz o (.lst xs)) ∧ RpL H ds xs
  | .tuple ds, v => ∃ a xs, v = .ref a ∧ H a = some (.tup xs) ∧ RpL H ds xs
  | .dict kds, v => ∃ a o kvs, v = .ref a ∧ H a = some (.frz o (.dK kvs)) ∧ RpD H kds kvs
def RpL (H : Hp) : List PyData → List V → Prop
  | [], xs => xs = []
  | d :: ds, xs => ∃ x r, xs = x :: r ∧ Rp H d x ∧ RpL H ds r
def RpD (H : Hp) : List (PyData × PyData) → List (Key × V) → Prop
  | [], kvs => kvs = []
  | (k, d) :: kds, kvs => ∃ ky v r, kvs = (ky, v) :: r ∧ k = kD ky ∧ Rp H d v ∧ RpD H kds r
end

/-- what is locked, and tuples, stand as they stood -/
structure Kp (H H' : Hp) : Prop where
  fz : ∀ b o u, H b = some (.frz o u) → H' b = some (.frz o u)
  tu : ∀ b xs, H b = some (.tup xs) → H' b = some (.tup xs)
theorem Kp.refl (H : Hp) : Kp H H := ⟨fun _ _ _ e => e, fun _ _ e => e⟩
theorem Kp.trans {H H1 H2 : Hp} (a : Kp H H1) (b : Kp H1 H2) : Kp H H2 := ⟨fun c o u e => b.fz c o u (a.fz c o u e), fun c xs e => b.tu c xs (a.tu c xs e)⟩
theorem Kp.same {H H' : Hp} (s : Same H H') : Kp H H' := ⟨fun b o u e => s b _ e, fun b xs e => s b _ e⟩
theorem Kp.new {H : Hp} {p : Addr} {o : HO} (n : H p = none) : Kp H (upd H p o) :=
  ⟨fun b ob u e => by rw [upd_ne (ne_of_none e n)]; exact e, fun b xs e => by rw [upd_ne (ne_of_none e n)]; exact e⟩
theorem Kp.put {H : Hp} {p : Addr} {o u : HO} (h : H p = some u) (hf : ∀ ob w, u ≠ .frz ob w) (ht : ∀ xs, u ≠ .tup xs) : Kp H (upd H p o) :=
  ⟨fun b ob w e => by rw [upd_ne (ne_of e h (fun z => hf ob w z.symm))]; exact e, fun b xs e => by rw [upd_ne (ne_of e h (fun z => ht xs z.symm))]; exact e⟩

mutual
theorem Rp.keep {H H' : Hp} (k : Kp H H') : ∀ (d : PyData) (v : V), Rp H d v → Rp H' d v
  | .none, v, h => by simpa only [Rp] using h
  | .bool b, v, h => by simpa only [Rp] using h
  | .int i, v, h => by simpa only [Rp] using h
  | .str x, v, h => by simpa only [Rp] using h
  | .list ds, v, h => by
    simp only [Rp] at h ⊢
    obtain ⟨a, o, xs, e, ha, r⟩ := h
    exact ⟨a, o, xs, e, k.fz _ _ _ ha, RpL.keep k ds xs r⟩
  | .tuple ds, v, h => by
    simp only [Rp] at h ⊢
    obtain ⟨a, xs, e, ha, r⟩ := h
    exact ⟨a, xs, e, k.tu _ _ ha, RpL.keep k ds xs r⟩
  | .dict kds, v, h => by
    simp only [Rp] at h ⊢
    obtain ⟨a, o, kvs, e, ha, r⟩ := h
    exact ⟨a, o, kvs, e, k.fz _ _ _ ha, RpD.keep k kds kvs r⟩
theorem RpL.keep {H H' : Hp} (k : Kp H H') : ∀ (ds : List PyData) (xs : List V), RpL H ds xs → RpL H' ds xs
  | [], xs, h => by simpa only [RpL] using h
  | d :: ds, xs, h => by
    simp only [RpL] at h ⊢
    obtain ⟨x, r, e, h1, h2⟩ := h
    exact ⟨x, r, e, Rp.keep k d x h1, RpL.keep k ds r h2⟩
theorem RpD.keep {H H' : Hp} (k : Kp H H') : ∀ (kds : List (PyData × PyData)) (kvs : List (Key × V)), RpD H kds kvs → RpD H' kds kvs
  | [], xs, h => by simpa only [RpD] using h
  | (ky, d) :: ds, xs, h => by
    simp only [RpD] at h ⊢
    obtain ⟨kk, v, r, e, h0, h1, h2⟩ := h
    exact ⟨kk, v, r, e, h0, Rp.keep k d v h1, RpD.keep k ds r h2⟩
end


mutual
/-- a value is at most one data -/
theorem Rp.one {H : Hp} : ∀ (d e : PyData) (v : V), Rp H d v → Rp H e v → d = e
  | .none, e, v, h, k => by
    simp only [Rp] at h; subst h
    cases e <;> simp [Rp] at k ⊢
  | .bool b, e, v, h, k => by
    simp only [Rp] at h; subst h
    cases e <;> simp [Rp] at k ⊢
    exact k
  | .int b, e, v, h, k => by
    simp only [Rp] at h; subst h
    cases e <;> simp [Rp] at k ⊢
    exact k
  | .str b, e, v, h, k => by
    simp only [Rp] at h; subst h
    cases e <;> simp [Rp] at k ⊢
    exact k
  | .list ds, e, v, h, k => by
    simp only [Rp] at h
    obtain ⟨a, o, xs, rfl, ha, r⟩ := h
    cases e with
    | list es =>
      simp only [Rp] at k
      obtain ⟨a', o', xs', e1, ha', r'⟩ := k
      cases e1
      rw [ha] at ha'
      cases ha'
      rw [RpL.one ds es xs r r']
    | tuple es =>
      simp only [Rp] at k
      obtain ⟨a', xs', e1, ha', r'⟩ := k
      cases e1
      rw [ha] at ha'
      cases ha'
    | dict es =>
      simp only [Rp] at k
      obtain ⟨a', o', xs', e1, ha', r'⟩ := k
      cases e1
      rw [ha] at ha'
      cases ha'
    | _ => simp [Rp] at k
  | .tuple ds, e, v, h, k => by
    simp only [Rp] at h
    obtain ⟨a, xs, rfl, ha, r⟩ := h
    cases e with
    | list es =>
      simp only [Rp] at k
      obtain ⟨a', o', xs', e1, ha', r'⟩ := k
      cases e1
      rw [ha] at ha'
      cases ha'
    | tuple es =>
      simp only [Rp] at k
      obtain ⟨a', xs', e1, ha', r'⟩ := k
      cases e1
      rw [ha] at ha'
      cases ha'
      rw [RpL.one ds es xs r r']
    | dict es =>
      simp only [Rp] at k
      obtain ⟨a', o', xs', e1, ha', r'⟩ := k
      cases e1
      rw [ha] at ha'
      cases ha'
    | _ => simp [Rp] at k
  | .dict ds, e, v, h, k => by
    simp only [Rp] at h
    obtain ⟨a, o, xs, rfl, ha, r⟩ := h
    cases e with
    | list es =>
      simp only [Rp] at k
      obtain ⟨a', o', xs', e1, ha', r'⟩ := k
      cases e1
      rw [ha] at ha'
      cases ha'
    | tuple es =>
      simp only [Rp] at k
      obtain ⟨a', xs', e1, ha', r'⟩ := k
      cases e1
      rw [ha] at ha'
      cases ha'
    | dict es =>
      simp only [Rp] at k
      obtain ⟨a', o', xs', e1, ha', r'⟩ := k
      cases e1
      rw [ha] at ha'
      cases ha'
      rw [RpD.one ds es xs r r']
    | _ => simp [Rp] at k
theorem RpL.one {H : Hp} : ∀ (ds es : List PyData) (xs : List V), RpL H ds xs → RpL H es xs → ds = es
  | [], es, xs, h, k => by
    simp only [RpL] at h; subst h
    cases es with
    | nil => rfl
    | cons e es => simp [RpL] at k
  | d :: ds, es, xs, h, k => by
    simp only [RpL] at h
    obtain ⟨x, r, rfl, h1, h2⟩ := h
    cases es with
    | nil => simp [RpL] at k
    | cons e es =>
      simp only [RpL] at k
      obtain ⟨x', r', e1, k1, k2⟩ := k
      cases e1
      rw [Rp.one d e x h1 k1, RpL.one ds es r h2 k2]
theorem RpD.one {H : Hp} : ∀ (ds es : List (PyData × PyData)) (xs : List (Key × V)), RpD H ds xs → RpD H es xs → ds = es
  | [], es, xs, h, k => by
    simp only [RpD] at h; subst h
    cases es with
    | nil => rfl
    | cons e es => simp [RpD] at k
  | (ky, d) :: ds, es, xs, h, k => by
    simp only [RpD] at h
    obtain ⟨kk, x, r, rfl, h0, h1, h2⟩ := h
    cases es with
    | nil => simp [RpD] at k
    | cons e es =>
      obtain ⟨ky', e⟩ := e
      simp only [RpD] at k
      obtain ⟨kk', x', r', e1, k0, k1, k2⟩ := k
      cases e1
      rw [h0, k0, Rp.one d e x h1 k1, RpD.one ds es r h2 k2]
end

/-- each of these places holds data that is no deeper -/
def Low (H : Hp) (n : Nat) (bs : List Addr) : Prop := ∀ b ∈ bs, ∃ d, Rp H d (.ref b) ∧ d.depth ≤ n
theorem Low.mono {H : Hp} {n m : Nat} {bs : List Addr} (h : Low H n bs) (k : n ≤ m) : Low H m bs := fun b hb => let ⟨d, r, l⟩ := h b hb; ⟨d, r, Nat.le_trans l k⟩
theorem Low.both {H : Hp} {n : Nat} {bs cs : List Addr} (h : Low H n bs) (k : Low H n cs) : Low H n (bs ++ cs) := fun b hb => (List.mem_append.mp hb).elim (h b) (k b)
theorem Low.top {H : Hp} {n : Nat} {a : Addr} {d : PyData} {bs : List Addr} (h : Low H n bs) (r : Rp H d (.ref a)) (k : n < d.depth) : a ∉ bs ∧ Low H d.depth (a :: bs) := by
  constructor
  · intro hm
    obtain ⟨d', r', l⟩ := h a hm
    rw [Rp.one d d' _ r r'] at k
    omega
  · intro b hb
    rcases List.mem_cons.mp hb with rfl | hb
    · exact ⟨d, r, Nat.le_refl _⟩
    · exact (h.mono (Nat.le_of_lt k)) b hb
theorem Low.nil {H : Hp} {n : Nat} : Low H n [] := fun b hb => absurd hb List.not_mem_nil

section
variable {P : Program} {w : World} {H : Hp} {h : Heap}
theorem lst_at (ok : HOk P w H h) {a : Addr} {o : Obj} {xs : List V} (e : H a = some (.frz o (.lst xs))) : ∃ (its : List Value) (n : Nat), Vals xs its ∧ h.get? a = some { cls := .type "list", data := .seq its.toArray n } := by
  obtain ⟨_, _, its, n, r, q⟩ := ok a _ e
  exact ⟨its, n, r, q⟩
theorem tup_at (ok : HOk P w H h) {a : Addr} {xs : List V} (e : H a = some (.tup xs)) : ∃ (its : List Value) (o : Obj) (n : Nat), Vals xs its ∧ h.get? a = some o ∧ o.cls = .type "tuple" ∧ o.data = .seq its.toArray n := by
  obtain ⟨_, its, r, o, e1, e2, n, e3⟩ := ok a _ e
  exact ⟨its, o, n, r, e1, e2, e3⟩
theorem dct_at (ok : HOk P w H h) {a : Addr} {o : Obj} {kvs : List (Key × V)} (e : H a = some (.frz o (.dK kvs))) : (a == sysModules) = false ∧ ∃ (kus : List (Key × Value)) (ob : Obj) (es : Array DictEntry) (n : Nat),
    KV kvs kus ∧ h.get? a = some ob ∧ ob.cls = .type "dict" ∧ ob.data = .dict es n ∧ Pairs (mixKind P w) es.toList kus := by
  obtain ⟨_, _, sm, kus, r, ob, es, n, e1, e2, e3, _, e5, _⟩ := ok a _ e
  exact ⟨sm, kus, ob, es, n, r, e1, e2.1, e3, e5⟩
theorem key_repr {ky : Key} {u : Value} {bs : List Addr} {n : Nat} (e : (mixKind P w).is ky u = true) (hs : (kD ky).showable = true) (hz : (kD ky).shown.length ≤ sizeLine) : ReprK P w bs h n u (kD ky).shown := by
  rcases keyIs_shape (k := ky) (v := u) e with ⟨i, t, rfl, rfl⟩ | ⟨x, t, rfl, rfl⟩
  · simp only [kD, PyData.shown]
    exact .of_is (ReprIs.int t (by simpa [kD, PyData.showable] using hs)) _ _ _
  · simp only [kD, PyData.shown] at hz ⊢
    exact .of_is (ReprIs.str x t hz) _ _ _

theorem dText_mem {ps : List Str} {p : Str} (h : p ∈ ps) : p.length ≤ (dictText ps).length := dictText_mem_le h

theorem entries_more {as as' : List Addr} {d d' : Nat} (hsub : ∀ b ∈ as, b ∈ as') (hd : d ≤ d') : ∀ {l : List DictEntry} {ts : List Str}, ReprEntriesK P w as h d l ts → ReprEntriesK P w as' h d' l ts
  | _, _, .nil => .nil
  | _, _, .cons hk hv hl => .cons ((hk.more hsub).level_le hd) ((hv.more hsub).level_le hd) (entries_more hsub hd hl)

mutual
theorem Rp.repr (ok : HOk P w H h) : ∀ (d : PyData) (v : V) (u : Value), Rp H d v → RelV v u → d.showable = true → d.shown.length ≤ sizeLine →
    ∃ bs, Low H d.depth bs ∧ ReprK P w bs h d.depth u d.shown
  | .none, v, u, r, rv, _, _ => by
    simp only [Rp] at r; subst r; cases rv
    refine ⟨[], Low.nil, ?_⟩
    simp only [PyData.shown]
    exact .of_is ReprIs.none _ _ _
  | .bool b, v, u, r, rv, _, _ => by
    simp only [Rp] at r; subst r; cases rv
    refine ⟨[], Low.nil, ?_⟩
    simp only [PyData.shown]
    exact .of_is (ReprIs.bool b) _ _ _
  | .int i, v, u, r, rv, hs, _ => by
    simp only [Rp] at r; subst r
    obtain ⟨t, rfl⟩ := rv
    refine ⟨[], Low.nil, ?_⟩
    simp only [PyData.shown]
    exact .of_is (ReprIs.int t (by simpa [PyData.showable] using hs)) _ _ _
  | .str x, v, u, r, rv, _, hz => by
    simp only [Rp] at r; subst r
    obtain ⟨t, rfl⟩ := rv
    refine ⟨[], Low.nil, ?_⟩
    simp only [PyData.shown] at hz ⊢
    exact .of_is (ReprIs.str x t hz) _ _ _
  | .list ds, v, u, r, rv, hs, hz => by
    have r0 := r
    simp only [Rp] at r
    obtain ⟨a, o, xs, rfl, ha, rl⟩ := r
    cases rv
    obtain ⟨its, n, vl, e1⟩ := lst_at ok ha
    simp only [PyData.shown] at hz
    obtain ⟨bs, lo, k⟩ := RpL.repr ok ds xs its rl vl (by simpa [PyData.showable] using hs) fun t ht => Nat.le_trans (listText_mem_le ht) hz
    obtain ⟨na, lo'⟩ := lo.top r0 (by simp only [PyData.depth]; omega)
    refine ⟨a :: bs, lo', ?_⟩
    simp only [PyData.depth, PyData.shown]
    cases its with
    | nil =>
      generalize hq : PyData.shownAll ds = ts at k
      cases k
      simp only [listText_nil]
      exact ReprK.listEmpty e1 rfl rfl
    | cons x l => exact ReprK.list e1 rfl rfl na (by simpa using k.length_eq) (fun i y e => k.item i y (by simpa using e))
  | .tuple ds, v, u, r, rv, hs, hz => by
    have r0 := r
    simp only [Rp] at r
    obtain ⟨a, xs, rfl, ha, rl⟩ := r
    cases rv
    obtain ⟨its, o, n, vl, e1, e2, e3⟩ := tup_at ok ha
    simp only [PyData.shown] at hz
    obtain ⟨bs, lo, k⟩ := RpL.repr ok ds xs its rl vl (by simpa [PyData.showable] using hs) fun t ht => Nat.le_trans (tupleText_mem_le ht) hz
    obtain ⟨na, lo'⟩ := lo.top r0 (by simp only [PyData.depth]; omega)
    refine ⟨a :: bs, lo', ?_⟩
    simp only [PyData.depth, PyData.shown]
    exact ReprK.tuple e1 e2 e3 na k
  | .dict kds, v, u, r, rv, hs, hz => by
    have r0 := r
    simp only [Rp] at r
    obtain ⟨a, o, kvs, rfl, ha, rl⟩ := r
    cases rv
    obtain ⟨sm, kus, ob, es, n, kv, e1, e2, e3, pr⟩ := dct_at ok ha
    simp only [PyData.shown] at hz
    obtain ⟨bs, lo, k⟩ := RpD.repr ok kds kvs es.toList kus rl kv pr (by simpa [PyData.showable] using hs) fun t ht => Nat.le_trans (dictText_mem_le ht) hz
    obtain ⟨na, lo'⟩ := lo.top r0 (by simp only [PyData.depth]; omega)
    refine ⟨a :: bs, lo', ?_⟩
    simp only [PyData.depth, PyData.shown]
    exact ReprK.dict e1 e2 e3 sm na k
theorem RpL.repr (ok : HOk P w H h) : ∀ (ds : List PyData) (xs : List V) (us : List Value), RpL H ds xs → Vals xs us → PyData.showableAll ds = true → (∀ t ∈ PyData.shownAll ds, t.length ≤ sizeLine) →
    ∃ bs, Low H (PyData.depthAll ds) bs ∧ ReprAllK P w bs h (PyData.depthAll ds) us (PyData.shownAll ds)
  | [], xs, us, r, vl, _, _ => by
    simp only [RpL] at r; subst r
    cases vl
    exact ⟨[], Low.nil, by simp only [PyData.shownAll]; exact .nil⟩
  | d :: ds, xs, us, r, vl, hs, hz => by
    simp only [RpL] at r
    obtain ⟨x, l, rfl, r1, r2⟩ := r
    cases vl with
    | cons v1 v2 =>
      have hs' : d.showable = true ∧ PyData.showableAll ds = true := by simpa [PyData.showableAll] using hs
      obtain ⟨b1, l1, k1⟩ := Rp.repr ok d x _ r1 v1 hs'.1 (hz _ (by simp [PyData.shownAll]))
      obtain ⟨b2, l2, k2⟩ := RpL.repr ok ds l _ r2 v2 hs'.2 fun t ht => hz t (by simp [PyData.shownAll, ht])
      simp only [PyData.depthAll, PyData.shownAll]
      exact ⟨b1 ++ b2, (l1.mono (by omega)).both (l2.mono (by omega)),
        .cons ((k1.more fun b hb => List.mem_append_left _ hb).level_le (by omega)) (k2.more_le (fun b hb => List.mem_append_right _ hb) (by omega))⟩
theorem RpD.repr (ok : HOk P w H h) : ∀ (kds : List (PyData × PyData)) (kvs : List (Key × V)) (es : List DictEntry) (kus : List (Key × Value)), RpD H kds kvs → KV kvs kus → Pairs (mixKind P w) es kus →
    PyData.showableKv kds = true → (∀ t ∈ PyData.shownKv kds, t.length ≤ sizeLine) → ∃ bs, Low H (PyData.depthKv kds) bs ∧ ReprEntriesK P w bs h (PyData.depthKv kds) es (PyData.shownKv kds)
  | [], kvs, es, kus, r, kv, pr, _, _ => by
    simp only [RpD] at r; subst r
    cases kv
    cases pr
    exact ⟨[], Low.nil, by simp only [PyData.shownKv]; exact .nil⟩
  | (k, d) :: kds, kvs, es, kus, r, kv, pr, hs, hz => by
    simp only [RpD] at r
    obtain ⟨ky, x, l, rfl, rfl, r1, r2⟩ := r
    cases kv with
    | @cons _ q _ kus' v1 v2 =>
      obtain ⟨e1, rv⟩ := v1
      cases pr with
      | @cons en _ es' _ p1 p2 p3 =>
        have hs' : ((kD ky).showable = true ∧ d.showable = true) ∧ PyData.showableKv kds = true := by simpa [PyData.showableKv] using hs
        have hz0 : ((kD ky).shown ++ ": " ++ d.shown).length ≤ sizeLine := hz _ (by simp [PyData.shownKv])
        rw [strLen_append, strLen_append] at hz0
        obtain ⟨b1, l1, k1⟩ := Rp.repr ok d x en.val r1 (by rw [p2]; exact rv) hs'.1.2 (by omega)
        obtain ⟨b2, l2, k2⟩ := RpD.repr ok kds l es' kus' r2 v2 p3 hs'.2 fun t ht => hz t (by simp [PyData.shownKv, ht])
        have k0 : ReprK P w (b1 ++ b2) h (PyData.depthKv ((kD ky, d) :: kds)) en.key (kD ky).shown := key_repr (by rw [← e1] at p1; exact p1) hs'.1.1 (by omega)
        simp only [PyData.depthKv, PyData.shownKv] at k0 ⊢
        refine ⟨b1 ++ b2, (l1.mono (by omega)).both (l2.mono (by omega)), .cons k0 ((k1.more fun b hb => List.mem_append_left _ hb).level_le (by omega)) ?_⟩
        exact entries_more (fun b hb => List.mem_append_right _ hb) (by omega) k2
end
end
end Tg
end
section
set_option Elab.async false
set_option linter.all false
set_option maxRecDepth 100000
set_option maxHeartbeats 4000000
/-! Tg, part C: rules: repr, locking for good, ** of great ints. -/
namespace Tg
open PySem PySem.Spec PyProof.Rows L2

section
variable {X : Cx}
def rRepr (A : Around) : List V → Hp → VK → Prop := fun xs H Q => ∃ (d : PyData) (v : V), xs = [v] ∧ Rp H d v ∧ d.showable = true ∧ d.shown.length ≤ sizeLine ∧ A.units + d.depth + 2 < cLine ∧ Q (.str d.shown) H
/-- repr(e) of data -/
theorem call_reprD (hg : X.A.guards = some []) : CallR X (.builtin "repr") (rRepr X.A) := by
  rintro pins s σ H xs us Q I rel ⟨d, v, rfl, r, hs, hz, hu, q⟩
  obtain ⟨u, rfl, rv⟩ := vals1 rel
  have fin : ∀ (h' : Heap) (t : Tok) (tk : Nat), (∀ b o, s.heap.get? b = some o → h'.get? b = some o) → EP X pins σ Q (.str d.shown t) { s with heap := h', toks := tk } :=
    fun h' t tk k => ⟨.str d.shown, H, I.kept k, ⟨t, rfl⟩, q⟩
  cases d with
  | none =>
    simp only [Rp] at r; subst r; cases rv
    simp only [PyData.shown] at fin
    exact PySem.P.repr_of_none (fin _ _ _ fun _ _ e => e)
  | bool b =>
    simp only [Rp] at r; subst r; cases rv
    simp only [PyData.shown] at fin
    exact PySem.P.repr_of_bool (fin _ _ _ fun _ _ e => e)
  | int i =>
    simp only [Rp] at r; subst r
    obtain ⟨t, rfl⟩ := rv
    simp only [PyData.shown] at fin
    exact PySem.P.repr_of_int (by simpa [PyData.showable] using hs) (fin _ _ _ fun _ _ e => e)
  | str x =>
    simp only [Rp] at r; subst r
    obtain ⟨t, rfl⟩ := rv
    simp only [PyData.shown] at fin hz
    exact PySem.P.repr_of_str (fin _ _ _ fun _ _ e => e) hz
  | list ds =>
    have r0 := r
    simp only [Rp] at r
    obtain ⟨a, o, ys, rfl, ha, rl⟩ := r
    cases rv
    obtain ⟨its, n, vl, e1⟩ := lst_at I.hok ha
    simp only [PyData.shown] at hz fin
    simp only [PyData.depth] at hu
    obtain ⟨bs, lo, k⟩ := RpL.repr I.hok ds ys its rl vl (by simpa [PyData.showable] using hs) fun t ht => Nat.le_trans (listText_mem_le ht) hz
    obtain ⟨na, _⟩ := lo.top r0 (by simp only [PyData.depth]; omega)
    refine call_repr_slot (by omega) ⟨_, e1, rfl⟩ F.slot_list_repr.toG ?_
    cases its with
    | nil =>
      generalize hq : PyData.shownAll ds = ts at k fin
      cases k
      simp only [listText_nil] at fin
      exact call_list_repr_empty ⟨_, e1, rfl⟩ e1 rfl ⟨_, _, rfl, fin _ _ _ fun _ _ e => e⟩
    | cons x l =>
      exact call_list_reprK e1 rfl rfl na (by simpa using k.length_eq) (fun i y e => k.item i y (by simpa using e)) hg (fun b _ => Clear.nil b) (by show X.A.units + 1 + _ < cLine; omega) (fun _ _ e => e) (fun h' t tk kk => ⟨_, _, rfl, fin h' t tk kk⟩) hz
  | tuple ds =>
    have r0 := r
    simp only [Rp] at r
    obtain ⟨a, ys, rfl, ha, rl⟩ := r
    cases rv
    obtain ⟨its, o, n, vl, e1, e2, e3⟩ := tup_at I.hok ha
    simp only [PyData.shown] at hz fin
    simp only [PyData.depth] at hu
    obtain ⟨bs, lo, k⟩ := RpL.repr I.hok ds ys its rl vl (by simpa [PyData.showable] using hs) fun t ht => Nat.le_trans (tupleText_mem_le ht) hz
    obtain ⟨na, _⟩ := lo.top r0 (by simp only [PyData.depth]; omega)
    refine call_repr_slot (by omega) ⟨_, e1, e2⟩ F.slot_tuple_repr ?_
    exact call_tuple_reprK e1 e2 e3 na k hg (fun b _ => Clear.nil b) (by show X.A.units + 1 + _ < cLine; omega) (fun _ _ e => e) (fun h' t tk kk => ⟨_, _, rfl, fin h' t tk kk⟩) hz
  | dict kds =>
    have r0 := r
    simp only [Rp] at r
    obtain ⟨a, o, kvs, rfl, ha, rl⟩ := r
    cases rv
    obtain ⟨sm, kus, ob, es, n, kv, e1, e2, e3, pr⟩ := dct_at I.hok ha
    simp only [PyData.shown] at hz fin
    simp only [PyData.depth] at hu
    obtain ⟨bs, lo, k⟩ := RpD.repr I.hok kds kvs es.toList kus rl kv pr (by simpa [PyData.showable] using hs) fun t ht => Nat.le_trans (dictText_mem_le ht) hz
    obtain ⟨na, _⟩ := lo.top r0 (by simp only [PyData.depth]; omega)
    refine call_repr_slot (by omega) ⟨_, e1, e2⟩ F.slot_dict_repr ?_
    exact call_dict_reprK e1 e2 e3 sm na k hg (fun b _ => Clear.nil b) (by show X.A.units + 1 + _ < cLine; omega) (fun _ _ e => e) (fun h' t tk kk => ⟨_, _, rfl, fin h' t tk kk⟩) hz

/-- what e gives is locked for good -/
def tFz (t : TE) : TE := fun σ H Q => t σ H fun v H1 => ∃ p u, v = .ref p ∧ H1 p = some u ∧ Mut (some u) ∧ ∀ o, Q v (upd H1 p (.frz o u))
theorem pe_fz {e : Expr} {t : TE} (h : PE X e t) : PE X e (tFz t) := by
  constructor
  intro pins s σ H Q I q
  refine thn (h.run pins s σ H _ I q) ?_
  rintro v s1 ⟨x, H1, I1, rv, p, u, rfl, hp, mu, q⟩
  obtain ⟨o, I2⟩ := I1.lock hp mu
  exact ⟨.ref p, _, I2, rv, q o⟩

/-- ** of a great base -/
def CPowW (i j : Int) : Prop := 0 ≤ j ∧ (Builtin.Int.intBits i : Int) * j ≤ 2 ^ 27
theorem op_powW : OpR X (binaryOp .Pow) (rI CPowW fun i j => .int (i ^ j.toNat)) := by
  refine opI fun i j t u s Q E hc q => ?_
  exact pow_int hc.1 hc.2 q
end
end Tg
end
section
set_option Elab.async false
set_option linter.all false
set_option maxRecDepth 100000
set_option maxHeartbeats 4000000
/-! Tg, part D: an own error over ValueError whose __init__ says super().__init__(value); self.value = value. -/
namespace Tg
open PySem PySem.Spec PyProof.Rows L2

/-- super().__init__(value); self.value = value -/
abbrev iBody : List Stmt :=
  [.Expr (.Call (.Attribute (.Call (.Name "super" ⟨5, 8, 5, 13⟩) [] [] ⟨5, 8, 5, 15⟩) "__init__" ⟨5, 8, 5, 24⟩) [.Name "value" ⟨5, 25, 5, 30⟩] [] ⟨5, 8, 5, 31⟩) ⟨5, 8, 5, 31⟩,
    .Assign [.Attribute (.Name "self" ⟨6, 8, 6, 12⟩) "value" ⟨6, 8, 6, 18⟩] (.Name "value" ⟨6, 21, 6, 26⟩) ⟨6, 8, 6, 26⟩]
abbrev iArgs : Arguments := { posonlyargs := [], args := [{ arg := "self", annotation := none, pos := ⟨4, 17, 4, 21⟩ }, { arg := "value", annotation := none, pos := ⟨4, 23, 4, 28⟩ }], vararg := none, kwonlyargs := [], kw_defaults := [], kwarg := none, defaults := [] }
abbrev iScope : Scope := { kind := .function, names := [("self", .local), ("value", .local), ("__class__", .free), ("super", .globalImplicit)], isGenerator := false, isCoroutine := false, more := [] }
abbrev iFn (ql : Str) (dV kV dc pm : Value) (an : Option Addr) (cda : Addr) (ct : Value) (cc : Addr) : FuncData := PySem.W.ksFn "__init__" ql iArgs iBody iScope dV kV dc pm an (.ref cda) ct cc

section
open PySem.W PySem.Calls
variable {P : Program} {w : World} {A : Around} {E : Value → Shared → Prop} {h : Heap} {g : Array GenState} {d : Drawn} {t : Nat} {os : OsState}
/-- the built-in __init__, bound to an error, called -/
theorem call_veb {B i newId : String} {bmB : List Value} {nm q : Str} {C N u e t0 : Addr} {bs bm : List Value} {hd : Bool} {sn : List Str} {sub : List Value} {ab : Bool} {col : Option Bool} {dd : Option Addr} {k0 k1 k2 k3 k5 : Option Value} {rest : List Value} {Q : Value → Shared → Prop}
    (FB : ExcBaseFacts B newId i bmB) (hC : h.get? C = some (excClassObj nm q C N bs bm hd sn sub ab col dd k0 k1 k2 k3 k5 newId)) (he : h.get? e = some (HandSPX.excO C t0)) (hu : h.get? u = some (kxs_mw i e)) (hz : rest.length ≤ sizeLine)
    (hq : ∀ h' t1, (∀ b o, b ≠ e → h.get? b = some o → h'.get? b = some o) → h'.get? e = some (HandSPX.excO C t1) → Q .none ⟨h', g, d, t, os⟩) :
    wpAny (model P w) A (call (.ref u) rest) Q E ⟨h, g, d, t, os⟩ := by
  refine wpAny_call (codeAny_of_tree ?_)
  show wpAny _ A.in1 (callAny (.ref u) ⟨rest, []⟩) _ _ _
  simp only [callAny]
  refine wpAny_bind (wpAny_load hu ?_)
  have mw : (Value.type "method-wrapper" == Value.type "method" || Value.type "method-wrapper" == Value.type "builtin_function_or_method" || Value.type "method-wrapper" == Value.type "method-wrapper") = true := by decide
  simp only [kxs_mw, mw, if_true]
  refine KFB.if_so (by decide) ?_
  refine wpAny_bind (check_bound_init FB.toExcCallFacts hC he rfl ?_)
  refine wpAny_bind (wpAny_pure (wpAny_pure ?_))
  refine ⟨plainId_quiet FB.init.plain _, codeAny_builtin FB.initEntry ?_⟩
  exact exc_init_tree (cls := .ref C) (t0 := t0) (dv := none) (c2 := .none) (c3 := .none) (b4 := .bool false) he hz fun h' k e' _ => hq h' h.objs.size k e'
end

section
open PySem.W PySem.Calls
variable {P : Program} {w : World} {A : Around} {R : Result → Shared → Prop} {s : Shared} {K : Frag} {mg mb : Str → Option Value}
/-- that __init__ at a new error -/
theorem init_run {f cc cda D C e t1 : Addr} {u : Value} {ql file : Str} {dV kV dc pm ct oc ccl cl : Value} {an od cdd cld : Option Addr} {sl ccs csl : Array (Option Value)} {vs : Array Value} {tf : Tok} {cdD : ClassData} {ag : Args}
    {nm q : Str} {N : Addr} {bs bm : List Value} {sn : List Str} {sub : List Value} {ab : Bool} {col : Option Bool} {dd : Option Addr} {k0 k1 k2 k3 k5 : Option Value}
    (X : K.In s.heap) (room : A.depth < recursionLimit) (lim : s.heap.NoLimit) (gns : s.heap.Ns mainGlobals mg) (hsu : mg "super" = none) (bns : s.heap.Ns builtinsNs mb) (bbt : ∀ x : Str, x ≠ "__name__" → mb x = bootBuiltins x)
    (lk : K.lookup f = some ⟨oc, od, .func (iFn ql dV kV dc pm an cda ct cc), sl⟩) (hcd : codeIn K (.ref cda) ql = true)
    (hcode : K.lookup cda = some ⟨ccl, cdd, .fields vs, ccs⟩) (hvs : vs[2]? = some (.str file tf)) (hfile : ((P.main.file : Str) == file) = true) (htop : (P.main.scope.names.lookup ("super" : Str)).isSome = false)
    (hcell : K.lookup cc = some ⟨cl, cld, .cell (some (.ref D)), csl⟩) (hD : clsIn K D = some cdD)
    (hC : K.lookup C = some (excClassObj nm q C N bs bm true sn sub ab col dd k0 k1 k2 k3 k5 "ValueError.__new__")) (hbm : HandSPX.refsVE bm = true) (hsub : mroIn K C (.ref D) = some true) (hsp : ks_superIn K C D "__init__" = some (some (.builtin "ValueError.__init__")))
    (h3 : nsIn K cStatics "thirdparty.any" = some none) (hve : subIn K (.ref C) (.type "ValueError") = some true) (hsa : findIn K (.ref C) "__setattr__" = some (some (.builtin "object.__setattr__"))) (hno : findIn K (.ref C) "value" = some none)
    (he : s.heap.get? e = some (HandSPX.excO C t1)) (hnk : K.lookup e = none) (hb : BindsTo s (iFn ql dV kV dc pm an cda ct cc) ag [("self", .ref e), ("value", u)])
    (hq : ∀ s' dx t2, s'.os = s.os → s'.gens = s.gens → (∀ b o, b ≠ e → s.heap.get? b = some o → s'.heap.get? b = some o) → s.heap.objs.size ≤ dx → dx ≠ e →
      s'.heap.get? e = some { cls := .ref C, dict := some dx, data := .fields #[.ref t2, .none, .none, .none, .bool false, .none] } → s'.heap.Ns1 dx (fun y => if y = "value" then some u else none) → R (.ok (.ret .none)) s') :
    codeAny (model P w) A (.call (.ref f) ag) R s := by
  have hcl : clsIn K C = some { name := nm, bases := bs, mro := .ref C :: bm, ns := N, qualname := q, hasDict := true, slotNames := sn, subclasses := sub, abstract := ab, collection := col, hasDel := false } := by
    unfold clsIn; rw [hC] <;> rfl
  obtain ⟨hh, g, dr, t, os⟩ := s
  have eL : e ≠ hh.objs.size := Nat.ne_of_lt (Heap.lt_size he)
  refine ks_codeAny_call_defAt (fd := iFn ql dV kV dc pm an cda ct cc) (binds := [("self", .ref e), ("value", u)]) room (X _ _ lk) rfl lim (codeRec_of X hcd) rfl hb (fun x hx => ?_) (fun x hx => ?_) (fun h₁ hns hk => ?_)
  · have hx' : x ∈ ([("self", .local), ("value", .local), ("__class__", .free), ("super", .globalImplicit)] : List (Str × NameKind)) := hx
    simp only [List.mem_cons, List.not_mem_nil, or_false] at hx'
    rcases hx' with rfl | rfl | rfl | rfl <;> exact fun z => nomatch z
  · rcases List.mem_cons.mp hx with rfl | hx
    · rfl
    · rcases List.mem_cons.mp hx with rfl | hx
      · rfl
      · exact absurd hx List.not_mem_nil
  have X1 : K.In h₁ := fun b o z => hk b o (X b o z)
  have e1 : h₁.get? e = some (HandSPX.excO C t1) := hk _ _ he
  obtain ⟨oD, hD1, hD2⟩ : ∃ oD, h₁.get? D = some oD ∧ oD.data = .cls cdD := by
    unfold clsIn at hD
    split at hD
    · rename_i c d cd' sl ho
      cases hD
      exact ⟨_, X1 _ _ ho, rfl⟩
    · cases hD
  refine ks_wpAt_execs_cons (ks_wpAt_Expr_any (ks_wpAt_MethodCall ?_))
  refine ks_wpAt_super_base (env := ksEnv ql iScope hh.objs.size f (.ref cda) cc) rfl rfl (by decide) rfl (X1 _ _ lk) rfl rfl rfl (X1 _ _ hcode) rfl hvs hfile htop ?_
  refine ks_loadName_global rfl rfl (loadGlobal_builtin (env := ksEnv ql iScope hh.objs.size f (.ref cda) cc) (gns.keeps hk) hsu (bns.keeps hk) ((bbt _ (by decide +kernel)).trans PyProof.Rows.Boot.super) ⟨rfl, ?_⟩)
  refine wpAny_loadName_free rfl rfl rfl ⟨_, X1 _ _ hcell, rfl⟩ ?_
  refine wpAny_loadName_local (v := .ref e) rfl rfl hns rfl ?_
  refine ks_wpAny_isType_cls hD1 hD2 ⟨rfl, ?_⟩
  refine ks_wpAny_call_super hD1 hD2 e1 rfl (fun c z => nomatch z) (looks_mroIn X1 hsub) (fun h₂ so k2 => ?_)
  -- the method
  have X2 : K.In h₂ := fun b o z => k2 b o (X1 b o z)
  have e2 : h₂.get? e = some (HandSPX.excO C t1) := k2 _ _ e1
  have I2 : InstAt h₂ e (HandSPX.excO C t1) C none := ⟨e2, rfl, rfl, trivial⟩
  have eC : e ≠ C := ks_ne X2 I2 hcl
  have hm : alongIn K "__init__" (((Value.ref C :: bm).dropWhile (· != .ref D)).drop 1) = some (some (.builtin "ValueError.__init__")) := by
    have z := hsp
    unfold ks_superIn at z
    rw [hcl] at z
    exact z
  refine kxs_getMethod kxs_ValueError so (looks_opaque X2 h3) (l₀ := Value.ref C :: bm) ((looks_clsIn X2 hcl).andThen .now) rfl X2 hm (I2.type.andThen (looks_subIn X2 hve)) eC (by decide) ?_
  -- the call of the bound one
  dsimp only
  refine kxs_callWith (i := "ValueError.__init__") (x := e) rfl ?_
  have hns2 := hns.keeps k2
  have k3 : ∀ b o, h₂.get? b = some o → (h₂.push (kxs_mw "ValueError.__init__" e)).get? b = some o := fun b o z => Heap.get?_push_of_some _ z
  have hu : (h₂.push (kxs_mw "ValueError.__init__" e)).get? h₂.objs.size = some (kxs_mw "ValueError.__init__" e) := Heap.get?_push_at rfl rfl
  refine evalArgs_plain (spliced_cons ?_)
  refine wpAny_Name (wpAny_loadName_local (v := u) rfl rfl (hns2.keeps k3) rfl ?_) (by decide)
  refine spliced_nil ⟨hu, ?_⟩
  refine call_veb F.excBase_ValueError (k3 _ _ (X2 _ _ hC)) (k3 _ _ e2) hu (by show 1 ≤ sizeLine; decide) fun h₃ t2 k4 e3 => ?_
  -- self.value = value
  have k34 : ∀ b o, b ≠ e → h₂.get? b = some o → h₃.get? b = some o := fun b o hb z => k4 b o hb (k3 b o z)
  have hns3 := hns2.at (h' := h₃) fun o z => k34 _ o (Ne.symm eL) z
  have hC2 : h₂.get? C = _ := X2 _ _ hC
  have X3 : K.In h₃ := fun b o z => k34 b o (fun y => by
    rw [y] at z
    rw [hnk] at z
    cases z) (X2 b o z)
  refine ks_wpAt_execs_cons (ks_wpAt_Assign_Attr ?_)
  refine wpAt_of_wpAny (wpAny_Name (wpAny_loadName_local (v := u) rfl rfl hns3 rfl ?_) (by decide))
  refine wpAny_Name (wpAny_loadName_local (v := .ref e) rfl rfl hns3 rfl ?_) (by decide)
  refine set_plain X3 (ox := HandSPX.excO C t2) (od := none) ⟨e3, rfl, rfl, trivial⟩ hsa ?_
  refine HandSPX.exc_osa X3 e3 hcl (show HandSPX.refsVE (.ref C :: bm) = true from hbm) rfl hno (fun h₄ tk dx k5 dn dne hx hn => ?_)
  refine wpAt_of_wpAny (wpAny_execs_nil ?_)
  refine hq _ dx t2 rfl rfl (fun b o hb z => k5 b o hb (k34 b o hb (k2 b o (hk b o z)))) ?_ dne hx hn
  have l0 : hh.objs.size < h₃.objs.size := hns3.lt
  exact Nat.le_trans (Nat.le_of_lt l0) dn
end
end Tg
end
section
set_option Elab.async false
set_option linter.all false
set_option maxRecDepth 100000
set_option maxHeartbeats 4000000
/-! Tg, part E: such errors in the layer: made as values, raised, asked for their class and their value. -/
namespace Tg
open PySem PySem.Spec PyProof.Rows L2

/-- the class at C is such an error (its __init__ the def at fI, of the class at D) -/
structure ErrC (K : PySem.W.Frag) (fI D C : Addr) : Prop where
  ox : OexC K C
  ini : PySem.W.findIn K (.ref C) "__init__" = some (some (.ref fI))
  sub : PySem.W.mroIn K C (.ref D) = some true
  sup : PySem.W.ks_superIn K C D "__init__" = some (some (.builtin "ValueError.__init__"))
  ve : PySem.W.subIn K (.ref C) (.type "ValueError") = some true
  no : PySem.W.findIn K (.ref C) "value" = some none
  xc : ExcC K C

def clsB (K : PySem.W.Frag) (C : Addr) : Bool := match K.lookup C with
  | some ⟨.type "type", _, .cls cd, sl⟩ => (match cd.mro, sl.toList with
    | .ref C' :: bm, [_, _, _, _, some (.builtin n), _] => C' == C && n == "ValueError.__new__" && !cd.hasDel && cd.hasDict && PySem.HandSPX.refsVE bm
    | _, _ => false)
  | _ => false
theorem clsB_ok {K : PySem.W.Frag} {C : Addr} (z : clsB K C = true) : ∃ nm q N bs bm sn sub ab col dd k0 k1 k2 k3 k5,
    K.lookup C = some (excClassObj nm q C N bs bm true sn sub ab col dd k0 k1 k2 k3 k5 "ValueError.__new__") ∧ PySem.HandSPX.refsVE bm = true := by
  unfold clsB at z
  split at z
  · rename_i dd cd sl ho
    split at z
    · rename_i C' bm k0 k1 k2 k3 n k5 hm hs
      simp only [Bool.and_eq_true, beq_iff_eq, Bool.not_eq_true'] at z
      obtain ⟨⟨⟨⟨rfl, rfl⟩, hdel⟩, hdct⟩, hr⟩ := z
      cases cd with
      | mk nm bs mro ns qn hd sn sub ab col del =>
        dsimp only at hm hdel hdct
        subst hm hdel hdct
        cases sl with
        | mk l =>
          simp only at hs
          subst hs
          exact ⟨_, _, _, _, _, _, _, _, _, _, _, _, _, _, _, ho, hr⟩
    · cases z
  · cases z
/-- all that is asked of the class, by one look -/
def errB (K : PySem.W.Frag) (fI D C : Addr) : Bool :=
  clsB K C && decide (PySem.W.findIn K (.ref C) "__setattr__" = some (some (.builtin "object.__setattr__"))) && decide (PySem.W.subIn K (.ref C) (.type "BaseException") = some true) && decide (PySem.W.typeIn K (.ref C) = some (.type "type")) &&
  PySem.W.keepIn K (.ref C) && decide (PySem.W.findIn K (.ref C) "__init__" = some (some (.ref fI))) && decide (PySem.W.mroIn K C (.ref D) = some true) && decide (PySem.W.ks_superIn K C D "__init__" = some (some (.builtin "ValueError.__init__"))) &&
  decide (PySem.W.subIn K (.ref C) (.type "ValueError") = some true) && decide (PySem.W.findIn K (.ref C) "value" = some none) &&
  decide (PySem.W.findIn K (.ref C) "__getattribute__" = some (some (.builtin "BaseException.__getattribute__"))) && decide (PySem.W.findIn K (.ref C) "__getattr__" = some none) && PySem.W.hasDictIn K C &&
  decide (PySem.W.findIn K (.ref C) "__class__" = some (some (.builtin "object.__class__"))) && decide (PySem.W.specialIn K (.builtin "object.__class__") "__get__" = some (some (.builtin "getset_descriptor.__get__"))) &&
  decide (PySem.W.takesIn K (.builtin "object.__class__") = some true) && decide (PySem.W.mroIn K C (.type "object") = some true)
theorem errB_ok {K : PySem.W.Frag} {fI D C : Addr} (z : errB K fI D C = true) : ErrC K fI D C := by
  unfold errB at z
  simp only [Bool.and_eq_true, decide_eq_true_eq] at z
  obtain ⟨⟨⟨⟨⟨⟨⟨⟨⟨⟨⟨⟨⟨⟨⟨⟨z1, z2⟩, z3⟩, z4⟩, z5⟩, z6⟩, z7⟩, z8⟩, z9⟩, z10⟩, z11⟩, z12⟩, z13⟩, z14⟩, z15⟩, z16⟩, z17⟩ := z
  exact ⟨⟨clsB_ok z1, z2, z3, z4, z5⟩, z6, z7, z8, z9, z10, ⟨z11, z12, z3, z13, z14, z15, z16, z17⟩⟩

/-- what the written part says of that __init__ -/
structure IniT (P : Program) (K : PySem.W.Frag) (mg : Str → Option Value) (fI D : Addr) (fd : FuncData) : Prop where
  fn : ∃ (ql file : Str) (dV kV dc pm ct oc ccl cl : Value) (an od cdd cld : Option Addr) (sl ccs csl : Array (Option Value)) (cda cc : Addr) (vs : Array Value) (tf : Tok) (cdD : ClassData),
    fd = iFn ql dV kV dc pm an cda ct cc ∧ K.lookup fI = some ⟨oc, od, .func fd, sl⟩ ∧ PySem.W.codeIn K (.ref cda) ql = true ∧ K.lookup cda = some ⟨ccl, cdd, .fields vs, ccs⟩ ∧ vs[2]? = some (.str file tf) ∧ ((P.main.file : Str) == file) = true ∧
    K.lookup cc = some ⟨cl, cld, .cell (some (.ref D)), csl⟩ ∧ PySem.W.clsIn K D = some cdD
  su : mg "super" = none
  th : PySem.W.nsIn K cStatics "thirdparty.any" = some none
  tp : (P.main.scope.names.lookup ("super" : Str)).isSome = false
  ty : PySem.W.typeIn K (.ref fI) = some (.type "function")

def spIni (K : PySem.W.Frag) (fI D : Addr) : Sp := fun vs H Q _ => ∃ (a C : Addr) (v : V), vs = [.ref a, v] ∧ ErrC K fI D C ∧ H a = some (exo a C none) ∧
  ∀ dx, H dx = none → dx ≠ a → Q .non (upd (upd H dx (exd dx [("value", v)])) a (exo a C (some dx)))

theorem ini_ok {P : Program} {w : World} {K : PySem.W.Frag} {mg : Str → Option Value} {base : Heap} {CX : CXT} {fI D : Addr} {fd : FuncData} (T : IniT P K mg fI D fd) : FnOk P w K mg base CX 1 fI fd ["self", "value"] (spIni K fI D) := by
  constructor
  · rintro vs H Q E ⟨a, C, v, rfl, _⟩
    rfl
  rintro A fr s H ag us vs Q E room en bnd rel ⟨a, C, v, rfl, EC, ha, q⟩
  obtain ⟨ql, file, dV, kV, dc, pm, ct, oc, ccl, cl, an, od, cdd, cld, sl, ccs, csl, cda, cc, vs', tf, cdD, rfl, lk, hcd, hcode, hvs, hfile, hcell, hD⟩ := T.fn
  obtain ⟨ua, u, rfl, ra, ru⟩ := vals2 rel
  obtain rfl : ua = Value.ref a := ra
  obtain ⟨nm, qn, N, bs, bm, sn, sub, ab, col, dd, k0, k1, k2, k3, k5, hC, hbm⟩ := EC.ox.cls
  have stays : ∀ b o, base.get? b = some o → s.heap.get? b = some o := fun b o e => (en.bs b o e).1
  have inK : K.In s.heap := en.mod.kin.keeps stays
  obtain ⟨mb, b1, b2⟩ := en.mod.blt
  obtain ⟨t1, hoe⟩ := exo_at en.hok ha
  have hnk : K.lookup a = none := by
    cases z : K.lookup a with
    | none => rfl
    | some o =>
      have y := (en.bs a o (en.mod.kin a o z)).2
      rw [ha] at y
      cases y
  refine init_run inK room.depth (en.mod.nolimit.keeps stays) (en.mod.glob.keeps stays) T.su (b1.keeps stays) b2 lk hcd hcode hvs hfile T.tp hcell hD hC hbm EC.sub EC.sup T.th EC.ve EC.ox.sa EC.no hoe hnk bnd ?_
  intro s' dx t2 hos hgn k dn dne hx hn
  have hnd : H dx = none := en.hok.fresh dn
  have nd : ∀ {b : Addr} {o : Obj}, s.heap.get? b = some o → b ≠ dx := fun {b o} z => Nat.ne_of_lt (Nat.lt_of_lt_of_le (Heap.lt_size z) dn)
  have na : ∀ {b : Addr}, H b = none → b ≠ a := fun {b} n z => by
    rw [z, ha] at n
    cases n
  refine ⟨.non, upd (upd H dx (exd dx [("value", v)])) a (exo a C (some dx)), hos, by rw [hgn]; exact en.bare, ⟨?_, ?_, ?_, ?_, ?_, ?_, ?_⟩, ?_, rfl, q dx hnd dne⟩
  · exact fun b o z n _ _ => k b o (na n) z
  · exact fun b o z n _ _ => ⟨o.slots, k b o (na n) z⟩
  · intro b o z n _
    rw [upd_ne (na n), upd_ne (nd z)]
    exact n
  · intro b o z _
    by_cases hb : b = a
    · exact ⟨_, by rw [hb]; exact hx⟩
    · exact ⟨o, k b o hb z⟩
  · intro b xs z
    rw [upd_ne (at_ne ha z exo_tup), upd_ne (ne_of_none z hnd)]
    exact z
  · intro b o x z
    rw [upd_ne (at_ne ha z exo_frz), upd_ne (ne_of_none z hnd)]
    exact z
  · intro b ps z
    exact ⟨#[], by rw [upd_ne (at_ne ha z exo_tbl), upd_ne (ne_of_none z hnd), z]; simp⟩
  · intro b o z
    by_cases hb : b = a
    · subst hb
      rw [upd_same] at z
      cases z
      exact exo_ok hx
    rw [upd_ne hb] at z
    by_cases hd : b = dx
    · subst hd
      rw [upd_same] at z
      cases z
      exact exd_ok hn (relO_put (fs := []) ru fun g => True.intro)
    rw [upd_ne hd] at z
    refine (en.hok b o z).stay (fun c x hc y => k c x ?_ y) (fun c hc => ?_) (fun c xs hc => ?_)
    · rcases hc with hc | hc
      · rw [hc]; exact hb
      · exact at_ne ha hc exo_own
    · rw [upd_ne (at_ne ha hc exo_own), upd_ne (ne_of_none hc hnd)]
      exact hc
    · rw [upd_ne (at_ne ha hc exo_tup), upd_ne (ne_of_none hc hnd)]
      exact hc
end Tg
end
section
set_option Elab.async false
set_option linter.all false
set_option maxRecDepth 100000
set_option maxHeartbeats 4000000
/-! Tg, part F: rules for such errors: C(e) as a value, raise C(e), isinstance(err, ..), err.value. -/
namespace PySem.W
open PySem
section
variable {prog : Program} {w : World} {A : Around} {E : Value → Shared → Prop} {s : Shared} {K : Frag} {x D : Addr} {ox : Obj} {od : Option Obj}
/-- type(err), as isinstance asks for it, of an error that may have its own dict -/
theorem tg_classE {Q : Option Value → Shared → Prop} (c : L2.ExcC K D) (X : K.In s.heap) (I : InstAt s.heap x ox D od) (h : Q (some (.ref D)) { s with toks := s.toks + 1 }) :
    wpAny (model prog w) A (getAttr? (.ref x) "__class__") Q E s := by
  have found : findObj K D od "__class__" = some (.bind (.builtin "getset_descriptor.__get__") (.builtin "object.__class__")) := by
    obtain ⟨cd, hc, _⟩ := any_some c.hd
    unfold findObj
    rw [hc, Option.bind_some, c.ha, Option.bind_some]
    simp [c.hn, c.ht]
  obtain ⟨hp, g, d, t, os⟩ := s
  have la := I.type (M := model prog w)
  have lb := looks_findIn (M := model prog w) X c.hg
  have lc := looks_findIn (M := model prog w) X c.hk
  have ld := looks_find (M := model prog w) X I found
  have isx : Looks (model prog w) hp (isInstance (.ref x) (.type "BaseException")) true := la.andThen (looks_subIn X c.hs)
  have other : (onTheHeap (Value.ref D) && Value.builtin "BaseException.__getattribute__" == Value.builtin "object.__getattribute__") = false := by
    show (true && Value.builtin "BaseException.__getattribute__" == Value.builtin "object.__getattribute__") = false
    decide +kernel
  unfold getAttr? getAttrBy? getAttrBy
  refine wpAny_bind (wpAny_mkText (wpAny_bind (wpAny_attempt (wpAny_holding (wpAny_bind (la.at (wpAny_bind (lb.at ?_))))))))
  show wpAny _ _ (if (onTheHeap (Value.ref D) && Value.builtin "BaseException.__getattribute__" == Value.builtin "object.__getattribute__") = true then _ else _) _ _ _
  rw [other, if_neg Bool.false_ne_true]
  unfold getAttrByItsOwn hookBefore
  refine wpAny_bind ?_
  rw [if_pos (show onTheHeap (Value.ref D) = true from rfl)]
  refine lc.at (wpAny_bind (wpAny_attempt (wpAny_holding ?_)))
  unfold callGetattribute
  rw [if_neg (show ¬ ((false && onTheHeap (Value.builtin "BaseException.__getattribute__")) = true) from Bool.false_ne_true)]
  unfold boundAndCalled
  rw [PySem.F.excAttr_ValueError.ga.bind (.ref x)]
  refine wpAny_bind (wpAny_pure ?_)
  show wpAny _ _ (call (.builtin "BaseException.__getattribute__") [.ref x, .str "__class__" t]) _ _ _
  refine wpAny_call (codeAny_call_builtin PySem.F.excAttr_ValueError.ga.plain PySem.F.entry_bexc_ga ?_)
  refine @check_slot (model prog w) _ _ ⟨hp, g, d, t + 1, os⟩ "BaseException.__getattribute__" "BaseException" "__getattribute__" (.ref x) [.str "__class__" t] [] _ (by decide +kernel) (by decide +kernel) isx (PySem.F.args_bexc_ga (.ref x) (.str "__class__" t)) ?_
  unfold Builtin.«object.__getattribute__»
  refine wpAny_bind (wpAny_of_eq (a := ((Value.ref x : Value), [Value.str "__class__" t])) (by first | rfl | (simp only [slotArgs]; rfl)) ?_)
  refine wpAny_bind (wpAny_pure (wpAny_bind (la.at (wpAny_bind (ld.at ?_)))))
  show wpAny _ _ (holding [Value.builtin "object.__class__"] (call (.builtin "getset_descriptor.__get__") [.builtin "object.__class__", .ref x, .ref D]) >>= ret) _ _ _
  refine wpAny_bind (wpAny_holding (wpAny_call (class_get (s := ⟨hp, g, d, t + 1, os⟩) (ox := ox) (od := od) X I c.hm ?_)))
  refine wpAny_pure ?_
  show wpAny _ _ (handedOut (.ref D)) _ _ _
  rw [handedOut_of (v := .ref D) rfl]
  first
    | exact wpAny_pure (wpAny_pure h)
    | exact wpAny_pure h
    | exact wpAny_pure (wpAny_bind (wpAny_pure (wpAny_pure h)))
theorem tg_kit (c : L2.ExcC K D) : KitX K (.ref x) (.ref D) (fun h => ∃ ox od, InstAt h x ox D od) where
  ty := fun _ _ _ ⟨_, _, I⟩ => I.type
  it := fun _ _ X _ => by
    obtain ⟨cd, hc, _⟩ := any_some c.hd
    unfold clsIn at hc
    split at hc
    · rename_i c' d' cd' sl' ho
      intro A' Q' E' s' k q
      unfold isType loadHead
      exact wpAny_bind (wpAny_loadPart (k _ _ (X _ _ ho)) (wpAny_pure q))
    · cases hc
  ne := fun h tp dd its n sl X htp => by
    obtain ⟨cd, hc, _⟩ := any_some c.hd
    refine Bool.eq_false_iff.mpr fun q => ?_
    have e : D = tp := Value.ref.inj (beq_iff_eq.mp q)
    subst e
    unfold clsIn at hc
    split at hc
    · rename_i c' d' cd' sl' ho
      exact nomatch ((X _ _ ho).symm.trans htp)
    · cases hc
  ca := fun X ⟨_, _, I⟩ k => tg_classE c X I k
end
end PySem.W

namespace Tg
open PySem PySem.Spec PyProof.Rows L2

/-- at a: an error of the class at C, its dict at d -/
def exq (a C d : Addr) : HO := .ext fun h => ∃ (oe : Obj) (vs : Array Value), h.get? a = some oe ∧ Zc (.ref C) (some d) oe ∧ oe.data = .fields vs
theorem exq_ok {P : Program} {w : World} {H : Hp} {h : Heap} {a C d : Addr} {oe : Obj} {vs : Array Value} (e : h.get? a = some oe) (z : Zc (.ref C) (some d) oe) (hd : oe.data = .fields vs) : ObjOk P w H h a (exq a C d) :=
  ⟨⟨oe, vs, e, z, hd⟩, ⟨oe, e⟩, fun h1 h2 ⟨o1, v1, e1, z1, d1⟩ k => ⟨o1, v1, k _ e1, z1, d1⟩⟩
theorem exq_at {P : Program} {w : World} {H : Hp} {h : Heap} {a C d : Addr} (ok : HOk P w H h) (e : H a = some (exq a C d)) : ∃ (oe : Obj) (vs : Array Value), h.get? a = some oe ∧ Zc (.ref C) (some d) oe ∧ oe.data = .fields vs := by
  have x : ObjOk P w H h a (.ext fun h => ∃ (oe : Obj) (vs : Array Value), h.get? a = some oe ∧ Zc (.ref C) (some d) oe ∧ oe.data = .fields vs) := ok a _ e
  exact x.1
theorem exq_frz {a C d : Addr} {ob : Obj} {w : HO} : exq a C d ≠ .frz ob w := fun z => by
  have z' : HO.ext _ = HO.frz ob w := z
  cases z'
theorem exq_tup {a C d : Addr} {xs : List V} : exq a C d ≠ .tup xs := fun z => by
  have z' : HO.ext _ = HO.tup xs := z
  cases z'

/-- the error at a has the class at C and the value v -/
structure Err (H : Hp) (a C : Addr) (v : V) : Prop where
  ex : ∃ d, H a = some (exq a C d) ∧ H d = some (.xd [("value", v)])
theorem Err.keep {H H' : Hp} {a C : Addr} {v : V} (h : Err H a C v) (k : Same H H') : Err H' a C v := let ⟨d, e1, e2⟩ := h.ex; ⟨d, k _ _ e1, k _ _ e2⟩

section
variable {X : Cx}
/-- what is known of a thing is told otherwise -/
theorem inv_swap {pins : List (Addr × Obj)} {σ : L2.St} {H : Hp} {s : Shared} {a : Addr} {φ : Heap → Prop} {o : HO} (I : Inv X pins σ H s) (ha : H a = some (.ext φ)) (new : ObjOk X.prog X.w (upd H a o) s.heap a o) : Inv X pins σ (upd H a o) s := by
  obtain ⟨ob, e⟩ : ∃ ob, s.heap.get? a = some ob := by
    obtain ⟨_, q, _⟩ := (show ObjOk X.prog X.w H s.heap a (.ext φ) from I.hok a _ ha)
    exact q
  have J := I.write (t' := s.toks) (h' := s.heap) (x := a) (e := a) (o := o) (by rw [ha]; exact True.intro) (.inl rfl) (fun _ _ _ q => q) ⟨ob, e⟩ new
  exact J

/-- C(e) -/
def tErr (C : Addr) (te : TE) : TE := fun σ H Q => te σ H fun v H1 => ∀ a d, H1 a = none → H1 d = none → d ≠ a → Q (.ref a) (upd (upd H1 d (.xd [("value", v)])) a (exq a C d))
theorem pe_err {fI D C : Addr} {fd : FuncData} {x : Str} {e : Expr} {te : TE} {p pos : Pos} (EC : ErrC X.K fI D C) (T : IniT X.prog X.K X.mg fI D fd) (hr : Room 2 X.A) (hg : Gl X x) (hm : X.mg x = some (.ref C)) (hb : Binds X.K fd ["self", "value"] []) (he : PE X e te)
    (hdb : (x == ("__debug__" : Str)) = false := by decide) (hs : starEach [e] X.env = (false, eval e X.env) :: starEach [] X.env := by rfl) :
    PE X (.Call (.Name x p) [e] [] pos) (tErr C te) := by
  constructor
  intro pins s σ H Q I h
  obtain ⟨nm, qn, N, bs, bm, sn, sub, ab, col, dd, k0, k1, k2, k3, k5, hC, hbm⟩ := EC.ox.cls
  apply wpAny_Call_Name_kw
  apply ld_glob I hg hm _ hdb
  refine PySem.W.callWith_K (h₀ := X.base) I.ok.mod.kin EC.ox.kC ?_ hs rfl
  rw [hs]
  show wpAny _ _ (spliced ((false, eval e X.env) :: backTo pos (starEach [] X.env))) _ _ s
  refine Calls.spliced_cons (thn (he.run pins s σ H _ I h) ?_)
  rintro u s1 ⟨v, H1, I1, ru, q1⟩
  refine Calls.spliced_nil ⟨I1.kIn, ?_⟩
  show wpAny _ _ (call (.ref C) [u]) _ _ _
  obtain ⟨hp, g, dr, tk, os⟩ := s1
  have up : hp.objs.size ≤ hp.objs.size + 1 := Nat.le_succ _
  have na : H1 (hp.objs.size + 1) = none := I1.hok.fresh up
  have kk : ∀ b o, hp.get? b = some o → ((hp.push (PySem.W.kdv_tup [u])).push (PySem.HandSPX.excO C hp.objs.size)).get? b = some o := fun b o z => Heap.get?_push_of_some _ (Heap.get?_push_of_some _ z)
  have new : ((hp.push (PySem.W.kdv_tup [u])).push (PySem.HandSPX.excO C hp.objs.size)).get? (hp.objs.size + 1) = some (PySem.HandSPX.excO C hp.objs.size) := by heap_get
  have I2 : Inv X pins σ (upd H1 (hp.objs.size + 1) (exo (hp.objs.size + 1) C none)) ⟨(hp.push (PySem.W.kdv_tup [u])).push (PySem.HandSPX.excO C hp.objs.size), g, dr, tk, os⟩ :=
    I1.laid (t' := tk) (a := hp.objs.size + 1) (o := exo (hp.objs.size + 1) C none) (h' := (hp.push (PySem.W.kdv_tup [u])).push (PySem.HandSPX.excO C hp.objs.size)) kk up (exo_ok new)
  have r2 : Vals [V.ref (hp.objs.size + 1), v] [Value.ref (hp.objs.size + 1), u] := .cons rfl (.cons ru .nil)
  have bnd := hb _ [Value.ref (hp.objs.size + 1), u] I2.kIn rfl
  have ran := (ini_ok (P := X.prog) (w := X.w) (base := X.base) (CX := CX0) T).run (X.A.under (.builtin "type.__call__" ⟨[.ref C, u], []⟩)) X.stack _ _ ⟨[Value.ref (hp.objs.size + 1), u], []⟩ [Value.ref (hp.objs.size + 1), u] _
    (fun w H2 => w = .non ∧ ∃ dx, H2 = upd (upd (upd H1 (hp.objs.size + 1) (exo (hp.objs.size + 1) C none)) dx (exd dx [("value", v)])) (hp.objs.size + 1) (exo (hp.objs.size + 1) C (some dx)) ∧ H1 dx = none ∧ dx ≠ hp.objs.size + 1)
    (fun _ _ _ => False) (hr.make C [u] []) (I2.env0.make C [u] []) bnd r2
    ⟨hp.objs.size + 1, C, v, rfl, EC, upd_same, fun dx hdx ne => ⟨rfl, dx, rfl, by rw [upd_ne ne] at hdx; exact hdx, ne⟩⟩
  refine wpAny_call (PySem.HandSPX.call_own F.excBase_ValueError (fun Y => PySem.HandSPX.refsVE_contains Y bm hbm) (I1.kIn _ _ hC) (PySem.W.looks_findIn I1.kIn EC.ini) (fun self => PySem.W.bind_fn I1.kIn self T.ty) (by show 1 ≤ sizeLine; decide)
    (codeAny_mono ran fun r s' hq => ?_))
  match r, hq with
  | .error er, hq => exact False.elim hq
  | .ok .next, hq => exact False.elim hq
  | .ok .brk, hq => exact False.elim hq
  | .ok .cont, hq => exact False.elim hq
  | .ok (.ret w'), ⟨v', H2, os2, bare2, un2, hok2, rv, ev, dx, eH, hdx, ne⟩ =>
    subst ev
    refine ⟨rv, ?_⟩
    have I3 : Inv X pins σ H2 s' := I2.call' (ch := []) os2 un2 hok2 bare2 fun b z => absurd z List.not_mem_nil
    generalize hp.objs.size + 1 = a at *
    have ha : H2 a = some (exo a C (some dx)) := by rw [eH]; exact upd_same
    have hd : H2 dx = some (exd dx [("value", v)]) := by rw [eH, upd_ne ne]; exact upd_same
    obtain ⟨t0, oa⟩ := exo_at I3.hok ha
    obtain ⟨mA, ns, rel⟩ := exd_at I3.hok hd
    have I4 : Inv X pins σ (upd H2 a (exq a C dx)) s' := inv_swap I3 ha (exq_ok oa ⟨rfl, rfl⟩ rfl)
    have hd4 : (upd H2 a (exq a C dx)) dx = some (exd dx [("value", v)]) := by rw [upd_ne ne]; exact hd
    have I5 : Inv X pins σ (upd (upd H2 a (exq a C dx)) dx (.xd [("value", v)])) s' := inv_swap I4 hd4 ⟨mA, ns, rel⟩
    have eq : upd (upd H2 a (exq a C dx)) dx (.xd [("value", v)]) = upd (upd H1 dx (.xd [("value", v)])) a (exq a C dx) := by
      funext b
      by_cases h1 : b = a
      · subst h1
        rw [upd_ne (Ne.symm ne), upd_same, upd_same]
      · by_cases h2 : b = dx
        · subst h2
          rw [upd_same, upd_ne h1, upd_same]
        · rw [upd_ne h2, upd_ne h1, upd_ne h1, upd_ne h2, eH, upd_ne h1, upd_ne h2, upd_ne h1]
    rw [eq] at I5
    exact ⟨.ref a, _, I5, rfl, q1 a dx na hdx ne⟩
end
end Tg
end
section
set_option Elab.async false
set_option linter.all false
set_option maxRecDepth 100000
set_option maxHeartbeats 4000000
/-! Tg, part G: raise C(e); isinstance(err, ..); err.value. -/
namespace Tg
open PySem PySem.Spec PyProof.Rows L2
section
variable {X : Cx}
/-- a reading, widened -/
def tMo (t : TE) : TE := fun σ H Q => ∃ Q' : VK, t σ H Q' ∧ ∀ v H', Q' v H' → Q v H'
theorem pe_mo {e : Expr} {t : TE} (h : PE X e t) : PE X e (tMo t) := by
  constructor
  rintro pins s σ H Q I ⟨Q', q, imp⟩
  refine thn (h.run pins s σ H Q' I q) ?_
  rintro u s1 ⟨v, H1, I1, r, q1⟩
  exact ⟨v, H1, I1, r, imp v H1 q1⟩
theorem upd_back {H1 : Hp} {a dx : Addr} {o1 o2 o3 u : HO} (na : H1 a = none) (ne : dx ≠ a) : upd (L2.del (upd (upd (upd H1 a o1) dx o2) a o3) a) dx u = upd H1 dx u := by
  funext b
  by_cases h1 : b = dx
  · subst h1
    rw [upd_same, upd_same]
  · rw [upd_ne h1, upd_ne h1]
    by_cases h2 : b = a
    · subst h2
      rw [del_same, na]
    · rw [del_ne h2, upd_ne h2, upd_ne h1, upd_ne h2]
/-- C(e), to be raised -/
def tRz (C : Addr) (te : TE) : L2.St → Hp → XK → Prop := fun σ H Q => te σ H fun v H1 => ∀ d, H1 d = none → Q (.ref C) (some d) (upd H1 d (.xd [("value", v)]))
theorem pmk_err {fI D C : Addr} {fd : FuncData} {x : Str} {e : Expr} {te : TE} {p pos : Pos} (EC : ErrC X.K fI D C) (T : IniT X.prog X.K X.mg fI D fd) (hr : Room 2 X.A) (hg : Gl X x) (hm : X.mg x = some (.ref C)) (hb : Binds X.K fd ["self", "value"] []) (he : PE X e te)
    (hdb : (x == ("__debug__" : Str)) = false := by decide) (hs : starEach [e] X.env = (false, eval e X.env) :: starEach [] X.env := by rfl) : PMk X (.Call (.Name x p) [e] [] pos) (tRz C te) := by
  intro pins s σ H Q I h
  refine pmk_oex (CX := CX0) (dvs := []) (ds := []) EC.ox EC.ini T.ty (ini_ok T) hr hb .nil pass0 hg hm (pa_cons (pe_mo he) pa_nil hs) hdb hs rfl pins s σ H Q I ?_
  refine ⟨_, h, fun v H1 q => ⟨by show 1 ≤ 1000; decide, fun a na => ?_⟩⟩
  refine ⟨a, C, v, rfl, EC, upd_same, fun dx hdx ne => ⟨rfl, dx, [("value", v)], upd_same, ?_, ?_, ?_⟩⟩
  · rw [upd_ne ne, upd_same]
  · rw [upd_ne ne] at hdx
    exact hdx
  · rw [upd_ne ne] at hdx
    rw [upd_back na ne]
    exact q dx hdx
/-- raise C(e) -/
theorem ps_raiseE {W : WX} {fI D C : Addr} {fd : FuncData} {x : Str} {e : Expr} {te : TE} {p pos pos' : Pos} (hc : X.calm = true) (tk : Takes X W) (EC : ErrC X.K fI D C) (T : IniT X.prog X.K X.mg fI D fd) (hr : Room 2 X.A) (hg : Gl X x) (hm : X.mg x = some (.ref C))
    (hb : Binds X.K fd ["self", "value"] []) (he : PE X e te) (hdb : (x == ("__debug__" : Str)) = false := by decide) (hs : starEach [e] X.env = (false, eval e X.env) :: starEach [] X.env := by rfl) :
    PS X (.Raise (some (.Call (.Name x p) [e] [] pos)) none pos') (fun _ σ H => te σ H fun v H1 => ∀ d, H1 d = none → W (.ref C) (some d) σ (upd H1 d (.xd [("value", v)]))) :=
  ps_raise hc tk (pmk_err EC T hr hg hm hb he hdb hs)

theorem exq_inst {P : Program} {w : World} {H : Hp} {h : Heap} {a C d : Addr} {fs : List (Str × V)} (ok : HOk P w H h) (e : H a = some (exq a C d)) (ed : H d = some (.xd fs)) :
    ∃ (oe od : Obj) (mA : Str → Option Value), PySem.W.InstAt h a oe C (some od) ∧ (∀ name, PySem.W.lookIn name od = some (mA name)) ∧ ∀ f, RelO (fs.lookup f) (mA f) := by
  obtain ⟨oe, vs, e1, z, hd⟩ := exq_at ok e
  obtain ⟨mA, ns, rel⟩ := (show ObjOk P w H h d (.xd fs) from ok d _ ed)
  obtain ⟨od, ho, hl⟩ := lookIn_ns ns
  exact ⟨oe, od, mA, ⟨e1, z.1, by unfold PySem.W.notCls; rw [hd] <;> rfl, by rw [z.2]; exact ho⟩, hl, rel⟩

/-- isinstance(err, c) -/
def rIsErr (K : PySem.W.Frag) : List V → Hp → VK → Prop := fun xs H Q => ∃ (a C : Addr) (v c : V) (cv : Value) (b : Bool), xs = [.ref a, c] ∧ Err H a C v ∧ ExcC K C ∧ ClsV c cv ∧ PySem.W.kitOne K (.ref C) cv = some b ∧ Q (.bl b) H
theorem call_isErr : CallR X (.builtin "isinstance") (rIsErr X.K) := by
  rintro pins s σ H xs us Q I rel ⟨a, C, v, c, cv, b, rfl, er, xc, hcv, hk, q⟩
  obtain ⟨ua, uc, rfl, ra, rc⟩ := vals2 rel
  obtain rfl : ua = Value.ref a := ra
  obtain rfl := hcv.eq rc
  obtain ⟨d, e1, e2⟩ := er.ex
  obtain ⟨oe, od, mA, J, _, _⟩ := exq_inst I.hok e1 e2
  exact PySem.W.kia_one (PySem.W.tg_kit xc) I.kIn ⟨oe, some od, J⟩ hk (fun z => nomatch z) fun tk => ⟨.bl b, H, I.kept (t' := tk) fun _ _ z => z, rfl, q⟩

/-- err.value -/
def tVal (K : PySem.W.Frag) (te : TE) : TE := fun σ H Q => te σ H fun x H1 => ∃ (a C : Addr) (v : V), x = .ref a ∧ Err H1 a C v ∧ ExcC K C ∧ PySem.W.findIn K (.ref C) "value" = some none ∧ Q v H1
theorem pe_value {e : Expr} {te : TE} {pos : Pos} (he : PE X e te) (hb : attributeBase e "value" X.env (eval e X.env) = eval e X.env := by rfl) : PE X (.Attribute e "value" pos) (tVal X.K te) := by
  constructor
  intro pins s σ H Q I h
  refine attr_of hb (thn (he.run pins s σ H _ I h) ?_)
  rintro u s1 ⟨x, H1, I1, rx, a, C, v, rfl, er, xc, no, q⟩
  obtain rfl : u = Value.ref a := rx
  obtain ⟨d, e1, e2⟩ := er.ex
  obtain ⟨oe, od, mA, J, hl, rel⟩ := exq_inst I1.hok e1 e2
  obtain ⟨w, hw, rw'⟩ := RelO.some_of (v := v) (o := mA "value") (by
    have z := rel "value"
    rw [show ([("value", v)] : List (Str × V)).lookup (Str.ofString "value") = some v from rfl] at z
    exact z)
  exact HandSPX.exc_get I1.kIn J xc.hg xc.hk xc.hs (PySem.W.findObj_own xc.hd no rfl (by rw [hl, hw])) (handed_of rw') ⟨v, H1, I1.tok _, rw', q⟩
end
end Tg
end
section
set_option Elab.async false
set_option linter.all false
set_option maxRecDepth 100000
set_option maxHeartbeats 4000000
/-! Tg, part H: data laid anew (displays), as readings ask for it. -/
namespace Tg
open PySem PySem.Spec PyProof.Rows L2

theorem len_ok {α : Type} {xs : List α} (h : xs.length ≤ 1000) : xs.length ≤ sizeLine := by rw [sizeLine_eq]; omega
theorem same_new {H : Hp} {p : Addr} {o : HO} (n : H p = none) : Same H (upd H p o) := fun b u e => by
  rw [upd_ne (ne_of_none e n)]
  exact e
theorem same_upd2 {H : Hp} {p : Addr} {o u : HO} (n : H p = none) : Same H (upd (upd H p o) p u) := fun b x e => by
  rw [upd_ne (ne_of_none e n), upd_ne (ne_of_none e n)]
  exact e
theorem Rp.same {H H' : Hp} {d : PyData} {v : V} (r : Rp H d v) (s : Same H H') : Rp H' d v := r.keep (Kp.same s)
theorem RpL.same {H H' : Hp} {ds : List PyData} {xs : List V} (r : RpL H ds xs) (s : Same H H') : RpL H' ds xs := RpL.keep (Kp.same s) ds xs r
theorem RpL.nil {H : Hp} : RpL H [] [] := by simp only [RpL]
theorem RpL.cons {H : Hp} {d : PyData} {v : V} {ds : List PyData} {xs : List V} (r : Rp H d v) (rs : RpL H ds xs) : RpL H (d :: ds) (v :: xs) := by
  simp only [RpL]
  exact ⟨v, xs, rfl, r, rs⟩
theorem Rp.non {H : Hp} : Rp H .none .non := by simp only [Rp]
theorem Rp.bl {H : Hp} {b : Bool} : Rp H (.bool b) (.bl b) := by simp only [Rp]
theorem Rp.int {H : Hp} {i : Int} : Rp H (.int i) (.int i) := by simp only [Rp]
theorem Rp.str {H : Hp} {x : Str} : Rp H (.str x) (.str x) := by simp only [Rp]
theorem Rp.tup {H : Hp} {a : Addr} {ds : List PyData} {xs : List V} (h : H a = some (.tup xs)) (r : RpL H ds xs) : Rp H (.tuple ds) (.ref a) := by
  simp only [Rp]
  exact ⟨a, xs, rfl, h, r⟩
theorem Rp.lst {H : Hp} {a : Addr} {o : Obj} {ds : List PyData} {xs : List V} (h : H a = some (.frz o (.lst xs))) (r : RpL H ds xs) : Rp H (.list ds) (.ref a) := by
  simp only [Rp]
  exact ⟨a, o, xs, rfl, h, r⟩
theorem Rp.dct {H : Hp} {a : Addr} {o : Obj} {kds : List (PyData × PyData)} {kvs : List (Key × V)} (h : H a = some (.frz o (.dK kvs))) (r : RpD H kds kvs) : Rp H (.dict kds) (.ref a) := by
  simp only [Rp]
  exact ⟨a, o, kvs, rfl, h, r⟩
theorem RpD.nil {H : Hp} : RpD H [] [] := by simp only [RpD]
theorem RpD.cons {H : Hp} {k : Key} {d : PyData} {v : V} {kds : List (PyData × PyData)} {kvs : List (Key × V)} (r : Rp H d v) (rs : RpD H kds kvs) : RpD H ((kD k, d) :: kds) ((k, v) :: kvs) := by
  simp only [RpD]
  exact ⟨k, v, kvs, rfl, rfl, r, rs⟩

/-- a tuple -/
theorem g_tup {H : Hp} {p : Addr} {xs : List V} {ds : List PyData} (n : H p = none) (r : RpL H ds xs) : ∃ H1, upd H p (.tup xs) = H1 ∧ Same H H1 ∧ Rp H1 (.tuple ds) (.ref p) :=
  ⟨_, rfl, same_new n, Rp.tup upd_same (r.same (same_new n))⟩
/-- a list that is locked -/
theorem g_lst {H : Hp} {p : Addr} {o : Obj} {xs : List V} {ds : List PyData} (n : H p = none) (r : RpL H ds xs) : ∃ H1, upd (upd H p (.lst xs)) p (.frz o (.lst xs)) = H1 ∧ Same H H1 ∧ Rp H1 (.list ds) (.ref p) :=
  ⟨_, rfl, same_upd2 n, Rp.lst upd_same (r.same (same_upd2 n))⟩
/-- an empty dict that is locked -/
theorem g_dct0 {H : Hp} {p : Addr} {o : Obj} (n : H p = none) : ∃ H1, upd (upd H p (.dK [])) p (.frz o (.dK [])) = H1 ∧ Same H H1 ∧ Rp H1 (.dict []) (.ref p) :=
  ⟨_, rfl, same_upd2 n, Rp.dct upd_same RpD.nil⟩
/-- a list of the moment -/
theorem g_mut {H : Hp} {p : Addr} {xs : List V} (n : H p = none) : ∃ H1, upd H p (.lst xs) = H1 ∧ Same H H1 ∧ H1 p = some (.lst xs) := ⟨_, rfl, same_new n, upd_same⟩
/-- a dict of one pair that is locked; the value's reading led from the empty dict to H2 -/
theorem g_dct1 {H H2 : Hp} {p : Addr} {o : Obj} {k : Key} {v : V} {d : PyData} (n : H p = none) (s : Same (upd H p (.dK [])) H2) (r : Rp H2 d v) :
    ∃ H1, upd (upd H2 p (.dK (mergeK [] [(k, v)]))) p (.frz o (.dK (mergeK [] [(k, v)]))) = H1 ∧ Same H H1 ∧ Rp H1 (.dict [(kD k, d)]) (.ref p) := by
  have hp : H2 p = some (.dK []) := s p _ upd_same
  refine ⟨_, rfl, fun b x e => ?_, ?_⟩
  · have ne := ne_of_none e n
    rw [upd_ne ne, upd_ne ne]
    exact s b x (by rw [upd_ne ne]; exact e)
  · have kp : Kp H2 (upd (upd H2 p (.dK (mergeK [] [(k, v)]))) p (.frz o (.dK (mergeK [] [(k, v)])))) := by
      rw [upd_upd]
      exact Kp.put hp (fun _ _ z => nomatch z) (fun _ z => nomatch z)
    exact Rp.dct (kvs := [(k, v)]) upd_same (RpD.cons (r.keep kp) RpD.nil)
end Tg
namespace Tg
open PySem PySem.Spec PyProof.Rows L2
/-- repr(e), the room told by a number -/
def rReprN (n : Nat) : List V → Hp → VK → Prop := fun xs H Q => ∃ (d : PyData) (v : V), xs = [v] ∧ Rp H d v ∧ d.showable = true ∧ d.shown.length ≤ sizeLine ∧ n + d.depth + 2 < cLine ∧ Q (.str d.shown) H
theorem call_reprN {X : Cx} {n : Nat} (hg : X.A.guards = some []) (hn : X.A.units ≤ n) : CallR X (.builtin "repr") (rReprN n) := by
  rintro pins s σ H xs us Q I rel ⟨d, v, e, r, hs, hz, hu, q⟩
  exact call_reprD hg pins s σ H xs us Q I rel ⟨d, v, e, r, hs, hz, by omega, q⟩
theorem room_units {k : Nat} {A : Around} (hr : Room k A) : ∃ U, A.units ≤ U ∧ U + 200 < cLine := ⟨_, Nat.le_refl _, by have := hr.un; omega⟩
end Tg
end
section
set_option Elab.async false
open PySem PySem.W PyProof.Rows
set_option maxRecDepth 100000
set_option maxHeartbeats 0
open_top head for PySem.Challenge.rw_tagless_k13_errors_with_any_value
end
section
set_option Elab.async false
set_option linter.all false
set_option maxRecDepth 100000
set_option maxHeartbeats 4000000
namespace K13
open PySem PySem.Spec PyProof.Rows L2 Tg
local macro_rules | `(tactic| walk_at "c") => `(tactic| first | assumption | trivial | omega | (constructor <;> omega) | decide | exact len_ok (Nat.le_of_ble_eq_true rfl))
local macro_rules | `(tactic| walk_at "sq") => `(tactic| first | exact SqL.of (by assumption) | exact SqL.of upd_same | assumption | exact SqT.of (by assumption) | exact SqT.of upd_same | exact .inl (SqL.of (by assumption)) | exact .inr (SqT.of (by assumption)))
local macro_rules | `(tactic| walk_at "r1") => `(tactic| first
  | refine ⟨_, rfl, ?_⟩
  | refine ⟨_, _, rfl, rfl, ?_⟩
  | refine .inl ⟨_, rfl, ?_⟩
  | refine .inr ⟨_, rfl, ?_⟩
  | (apply Exists.intro; apply Exists.intro; apply Exists.intro; apply Exists.intro; refine And.intro rfl (And.intro rfl (And.intro ?sq ?_)); (case sq => walk_at "sq"); refine And.intro rfl ?_)
  | (apply Exists.intro; apply Exists.intro; apply Exists.intro; apply Exists.intro; refine And.intro rfl (And.intro rfl (And.intro ?hp ?_)); (case hp => first | assumption | exact upd_same); refine And.intro rfl ?_)
  | (refine And.intro ?c ?_; (case c => walk_at "c")))
local macro_rules | `(tactic| walk_at "r") => `(tactic| repeat walk_at "r1")
def top (i : Nat) : Stmt := PySem.Challenge.pw_tagless_k13_errors_with_any_value.main.body.getD i (.Pass ⟨0, 0, 0, 0⟩)
abbrev s_is_name : Stmt := top 40
abbrev s_is_document : Stmt := top 41
abbrev s_check_document : Stmt := top 42
abbrev s_parts_in : Stmt := top 43
abbrev s_size : Stmt := top 44
abbrev s__law_pot_of : Stmt := top 46
abbrev s__law_take : Stmt := top 47
abbrev s__law_of : Stmt := top 48
abbrev s__law_made : Stmt := top 49
abbrev s__law_marks : Stmt := top 50
abbrev s__law_thing : Stmt := top 51
abbrev s__law_right : Stmt := top 52
abbrev s_law : Stmt := top 53
theorem sc_is_name : FnScope ["value", "letter"] ["value"] (defScope s_is_name) := ⟨rfl, rfl, rfl, by decide +kernel, rfl, by decide +kernel, by decide +kernel⟩
theorem sc_is_document : FnScope ["value", "part", "field"] ["value"] (defScope s_is_document) := ⟨rfl, rfl, rfl, by decide +kernel, rfl, by decide +kernel, by decide +kernel⟩
theorem sc_check_document : FnScope ["value"] ["value"] (defScope s_check_document) := ⟨rfl, rfl, rfl, by decide +kernel, rfl, by decide +kernel, by decide +kernel⟩
theorem sc_parts_in : FnScope ["document", "part"] ["document"] (defScope s_parts_in) := ⟨rfl, rfl, rfl, by decide +kernel, rfl, by decide +kernel, by decide +kernel⟩
theorem sc_size : FnScope ["document"] ["document"] (defScope s_size) := ⟨rfl, rfl, rfl, by decide +kernel, rfl, by decide +kernel, by decide +kernel⟩
theorem sc__law_pot_of : FnScope ["_law_script", "_law_k", "_law_cell", "_law_own"] ["_law_script", "_law_k"] (defScope s__law_pot_of) := ⟨rfl, rfl, rfl, by decide +kernel, rfl, by decide +kernel, by decide +kernel⟩
theorem sc__law_take : FnScope ["_law_pot", "_law_upto", "_law_digit", "_law_prime", "_law_stirred"] ["_law_pot", "_law_upto"] (defScope s__law_take) := ⟨rfl, rfl, rfl, by decide +kernel, rfl, by decide +kernel, by decide +kernel⟩
theorem sc__law_of : FnScope ["_law_pot", "_law_some"] ["_law_pot", "_law_some"] (defScope s__law_of) := ⟨rfl, rfl, rfl, by decide +kernel, rfl, by decide +kernel, by decide +kernel⟩
theorem sc__law_made : FnScope ["_law_thing_here", "_law_some"] ["_law_thing_here"] (defScope s__law_made) := ⟨rfl, rfl, rfl, by decide +kernel, rfl, by decide +kernel, by decide +kernel⟩
theorem sc__law_marks : FnScope ["_law_error", "_law_marks_here"] ["_law_error"] (defScope s__law_marks) := ⟨rfl, rfl, rfl, by decide +kernel, rfl, by decide +kernel, by decide +kernel⟩
theorem sc__law_thing : FnScope ["_law_pot", "_law_deep", "_law_odds", "_law_part"] ["_law_pot", "_law_deep"] (defScope s__law_thing) := ⟨rfl, rfl, rfl, by decide +kernel, rfl, by decide +kernel, by decide +kernel⟩
theorem sc__law_right : FnScope ["_law_pot", "_law_thing_here", "_law_number", "_law_one", "_law_marks_here", "_law_error", "_law_at"] ["_law_pot"] (defScope s__law_right) := ⟨rfl, rfl, rfl, by decide +kernel, rfl, by decide +kernel, by decide +kernel⟩
theorem sc_law : FnScope ["_law_script", "_law_k", "_law_pot", "_law_turn"] ["_law_script"] (defScope s_law) := ⟨rfl, rfl, rfl, by decide +kernel, rfl, by decide +kernel, by decide +kernel⟩
structure Tx (P : Program) (K : PySem.W.Frag) (mg : Str → Option Value) where
  D : Addr
  fI : Addr
  fdI : FuncData
  ini : IniT P K mg fI D fdI
  b_ini : Binds K fdI ["self", "value"] []
  C_TaglessError : Addr
  e_TaglessError : ErrC K fI D C_TaglessError
  m_TaglessError : mg "TaglessError" = some (.ref C_TaglessError)
  C_NoKind : Addr
  e_NoKind : ErrC K fI D C_NoKind
  m_NoKind : mg "NoKind" = some (.ref C_NoKind)
  C_NoDocument : Addr
  e_NoDocument : ErrC K fI D C_NoDocument
  m_NoDocument : mg "NoDocument" = some (.ref C_NoDocument)
  C_BadBook : Addr
  e_BadBook : ErrC K fI D C_BadBook
  m_BadBook : mg "BadBook" = some (.ref C_BadBook)
  C_Unnamed : Addr
  e_Unnamed : ErrC K fI D C_Unnamed
  m_Unnamed : mg "Unnamed" = some (.ref C_Unnamed)
  C_Ring : Addr
  e_Ring : ErrC K fI D C_Ring
  m_Ring : mg "Ring" = some (.ref C_Ring)
  C_BadForms : Addr
  e_BadForms : ErrC K fI D C_BadForms
  m_BadForms : mg "BadForms" = some (.ref C_BadForms)
  C_Clash : Addr
  e_Clash : ErrC K fI D C_Clash
  m_Clash : mg "Clash" = some (.ref C_Clash)
  C_NoReading : Addr
  e_NoReading : ErrC K fI D C_NoReading
  m_NoReading : mg "NoReading" = some (.ref C_NoReading)
  C_BadReading : Addr
  e_BadReading : ErrC K fI D C_BadReading
  m_BadReading : mg "BadReading" = some (.ref C_BadReading)
  C_BadSide : Addr
  e_BadSide : ErrC K fI D C_BadSide
  m_BadSide : mg "BadSide" = some (.ref C_BadSide)
  C_TooLarge : Addr
  e_TooLarge : ErrC K fI D C_TooLarge
  m_TooLarge : mg "TooLarge" = some (.ref C_TooLarge)
  C_NotEither : Addr
  e_NotEither : ErrC K fI D C_NotEither
  m_NotEither : mg "NotEither" = some (.ref C_NotEither)
  C_BadOrder : Addr
  e_BadOrder : ErrC K fI D C_BadOrder
  m_BadOrder : mg "BadOrder" = some (.ref C_BadOrder)
  C_NoOrder : Addr
  e_NoOrder : ErrC K fI D C_NoOrder
  m_NoOrder : mg "NoOrder" = some (.ref C_NoOrder)
  C_TooMany : Addr
  e_TooMany : ErrC K fI D C_TooMany
  m_TooMany : mg "TooMany" = some (.ref C_TooMany)
  C_BadMember : Addr
  e_BadMember : ErrC K fI D C_BadMember
  m_BadMember : mg "BadMember" = some (.ref C_BadMember)
  C_BadPlace : Addr
  e_BadPlace : ErrC K fI D C_BadPlace
  m_BadPlace : mg "BadPlace" = some (.ref C_BadPlace)
  C_BadField : Addr
  e_BadField : ErrC K fI D C_BadField
  m_BadField : mg "BadField" = some (.ref C_BadField)
  C_NoField : Addr
  e_NoField : ErrC K fI D C_NoField
  m_NoField : mg "NoField" = some (.ref C_NoField)
  C_BadDraft : Addr
  e_BadDraft : ErrC K fI D C_BadDraft
  m_BadDraft : mg "BadDraft" = some (.ref C_BadDraft)
  C_BadRoad : Addr
  e_BadRoad : ErrC K fI D C_BadRoad
  m_BadRoad : mg "BadRoad" = some (.ref C_BadRoad)
  C_BadChanges : Addr
  e_BadChanges : ErrC K fI D C_BadChanges
  m_BadChanges : mg "BadChanges" = some (.ref C_BadChanges)
  C_BadOffers : Addr
  e_BadOffers : ErrC K fI D C_BadOffers
  m_BadOffers : mg "BadOffers" = some (.ref C_BadOffers)
  C_BadWish : Addr
  e_BadWish : ErrC K fI D C_BadWish
  m_BadWish : mg "BadWish" = some (.ref C_BadWish)
  C_BadEdition : Addr
  e_BadEdition : ErrC K fI D C_BadEdition
  m_BadEdition : mg "BadEdition" = some (.ref C_BadEdition)
  C_BadTruth : Addr
  e_BadTruth : ErrC K fI D C_BadTruth
  m_BadTruth : mg "BadTruth" = some (.ref C_BadTruth)
  C_Broken : Addr
  e_Broken : ErrC K fI D C_Broken
  m_Broken : mg "Broken" = some (.ref C_Broken)
  C_NotKept : Addr
  e_NotKept : ErrC K fI D C_NotKept
  m_NotKept : mg "NotKept" = some (.ref C_NotKept)
  C_NoNumber : Addr
  e_NoNumber : ErrC K fI D C_NoNumber
  m_NoNumber : mg "NoNumber" = some (.ref C_NoNumber)
  C_Turned : Addr
  e_Turned : ErrC K fI D C_Turned
  m_Turned : mg "Turned" = some (.ref C_Turned)
  C_NothingToUndo : Addr
  e_NothingToUndo : ErrC K fI D C_NothingToUndo
  m_NothingToUndo : mg "NothingToUndo" = some (.ref C_NothingToUndo)
  C_NothingToRedo : Addr
  e_NothingToRedo : ErrC K fI D C_NothingToRedo
  m_NothingToRedo : mg "NothingToRedo" = some (.ref C_NothingToRedo)
  C_NoTrial : Addr
  e_NoTrial : ErrC K fI D C_NoTrial
  m_NoTrial : mg "NoTrial" = some (.ref C_NoTrial)
  C_BadText : Addr
  e_BadText : ErrC K fI D C_BadText
  m_BadText : mg "BadText" = some (.ref C_BadText)
  C_BadJournal : Addr
  e_BadJournal : ErrC K fI D C_BadJournal
  m_BadJournal : mg "BadJournal" = some (.ref C_BadJournal)
  C_BadLine : Addr
  e_BadLine : ErrC K fI D C_BadLine
  m_BadLine : mg "BadLine" = some (.ref C_BadLine)
  t_MOST_LETTERS : Tok
  m_MOST_LETTERS : mg "MOST_LETTERS" = some (.int 8 t_MOST_LETTERS)
  n_ValueError : mg "ValueError" = none
  n_abs : mg "abs" = none
  n_all : mg "all" = none
  n_bool : mg "bool" = none
  n_dict : mg "dict" = none
  n_enumerate : mg "enumerate" = none
  n_int : mg "int" = none
  n_isinstance : mg "isinstance" = none
  n_len : mg "len" = none
  n_list : mg "list" = none
  n_max : mg "max" = none
  n_min : mg "min" = none
  n_range : mg "range" = none
  n_repr : mg "repr" = none
  n_str : mg "str" = none
  n_sum : mg "sum" = none
  a_is_name : Addr
  fd_is_name : FuncData
  F_is_name : Fun K "is_name" "is_name" s_is_name a_is_name fd_is_name
  b_is_name : Binds K fd_is_name ["value"] []
  m_is_name : mg "is_name" = some (.ref a_is_name)
  a_is_document : Addr
  fd_is_document : FuncData
  F_is_document : Fun K "is_document" "is_document" s_is_document a_is_document fd_is_document
  b_is_document : Binds K fd_is_document ["value"] []
  m_is_document : mg "is_document" = some (.ref a_is_document)
  a_check_document : Addr
  fd_check_document : FuncData
  F_check_document : Fun K "check_document" "check_document" s_check_document a_check_document fd_check_document
  b_check_document : Binds K fd_check_document ["value"] []
  m_check_document : mg "check_document" = some (.ref a_check_document)
  a_parts_in : Addr
  fd_parts_in : FuncData
  F_parts_in : Fun K "parts_in" "parts_in" s_parts_in a_parts_in fd_parts_in
  b_parts_in : Binds K fd_parts_in ["document"] []
  m_parts_in : mg "parts_in" = some (.ref a_parts_in)
  a_size : Addr
  fd_size : FuncData
  F_size : Fun K "size" "size" s_size a_size fd_size
  b_size : Binds K fd_size ["document"] []
  m_size : mg "size" = some (.ref a_size)
  a__law_pot_of : Addr
  fd__law_pot_of : FuncData
  F__law_pot_of : Fun K "_law_pot_of" "_law_pot_of" s__law_pot_of a__law_pot_of fd__law_pot_of
  b__law_pot_of : Binds K fd__law_pot_of ["_law_script", "_law_k"] []
  m__law_pot_of : mg "_law_pot_of" = some (.ref a__law_pot_of)
  a__law_take : Addr
  fd__law_take : FuncData
  F__law_take : Fun K "_law_take" "_law_take" s__law_take a__law_take fd__law_take
  b__law_take : Binds K fd__law_take ["_law_pot", "_law_upto"] []
  m__law_take : mg "_law_take" = some (.ref a__law_take)
  a__law_of : Addr
  fd__law_of : FuncData
  F__law_of : Fun K "_law_of" "_law_of" s__law_of a__law_of fd__law_of
  b__law_of : Binds K fd__law_of ["_law_pot", "_law_some"] []
  m__law_of : mg "_law_of" = some (.ref a__law_of)
  a__law_made : Addr
  fd__law_made : FuncData
  F__law_made : Fun K "_law_made" "_law_made" s__law_made a__law_made fd__law_made
  b__law_made : Binds K fd__law_made ["_law_thing_here"] []
  m__law_made : mg "_law_made" = some (.ref a__law_made)
  a__law_marks : Addr
  fd__law_marks : FuncData
  F__law_marks : Fun K "_law_marks" "_law_marks" s__law_marks a__law_marks fd__law_marks
  b__law_marks : Binds K fd__law_marks ["_law_error"] []
  m__law_marks : mg "_law_marks" = some (.ref a__law_marks)
  a__law_thing : Addr
  fd__law_thing : FuncData
  F__law_thing : Fun K "_law_thing" "_law_thing" s__law_thing a__law_thing fd__law_thing
  b__law_thing : Binds K fd__law_thing ["_law_pot", "_law_deep"] []
  m__law_thing : mg "_law_thing" = some (.ref a__law_thing)
  a__law_right : Addr
  fd__law_right : FuncData
  F__law_right : Fun K "_law_right" "_law_right" s__law_right a__law_right fd__law_right
  b__law_right : Binds K fd__law_right ["_law_pot"] []
  m__law_right : mg "_law_right" = some (.ref a__law_right)
  a_law : Addr
  fd_law : FuncData
  F_law : Fun K "law" "law" s_law a_law fd_law
  b_law : Binds K fd_law ["_law_script"] []
  m_law : mg "law" = some (.ref a_law)

/-! ### the pot -/
structure PotAt (H : Hp) (p : Addr) (c : Int) : Prop where
  ex : ∃ x y z : Int, H p = some (.lst [.int x, .int y, .int z]) ∧ 0 ≤ x ∧ 0 ≤ y ∧ y < 2305843009213693921 ∧ 0 ≤ z ∧ z ≤ c
def But (p : Addr) (H H' : Hp) : Prop := ∀ b o, b ≠ p → H b = some o → H' b = some o
theorem But.trans {p : Addr} {H H1 H2 : Hp} (a : But p H H1) (b : But p H1 H2) : But p H H2 := fun c o n e => b c o n (a c o n e)
theorem But.refl {p : Addr} {H : Hp} : But p H H := fun _ _ _ e => e
theorem But.same {p : Addr} {H H' : Hp} (s : Same H H') : But p H H' := fun b o _ e => s b o e

theorem atI_mem {xs : List V} {i : Int} (h0 : 0 ≤ i) (h1 : i < xs.length) : ∃ v, atI xs i = some v ∧ v ∈ xs := by
  have hj : i.toNat < xs.length := by omega
  exact ⟨xs[i.toNat], at_of (j := i.toNat) (by omega) (List.getElem?_eq_getElem hj), List.getElem_mem hj⟩
def spTake : Sp := fun vs H Q _ => ∃ (p : Addr) (c n : Int), vs = [.ref p, .int n] ∧ PotAt H p c ∧ c < 1000000 ∧ 0 < n ∧ n < 1073741824 ∧
  ∀ (H' : Hp) (r : Int), But p H H' → PotAt H' p (c + 1) → 0 ≤ r → r < n → Q (.int r) H'
section
variable {P : Program} {w : World} {K : PySem.W.Frag} {mg : Str → Option Value} {base : Heap}
theorem sq_upd {H : Hp} {p : Addr} {xs : List V} : SqL K (upd H p (.lst xs)) p xs := SqL.of upd_same
theorem ok_take (T : Tx P K mg) : FnOk P w K mg base CX0 1 T.a__law_take T.fd__law_take ["_law_pot", "_law_upto"] spTake := by
  refine T.F__law_take.ok sc__law_take (fun vs H Q E h => ?_) (fun cdv A outer s H vs Q E hr h => ?_)
  · obtain ⟨p, c, n, rfl, _⟩ := h
    rfl
  obtain ⟨p, c, n, rfl, ⟨x, y, z, hp, hx, hy, hy2, hz, hz2⟩, hc, hn, hn2, k⟩ := h
  refine ⟨_, (pss_cons (ps_if (pt_cmpR op_gt (pe_ix ix_list (pv 0) pe_int (fun _ _ => rfl)) pe_int (nomark _)) (pss_cons (ps_set (i := 2) sc__law_take.nd rfl (Or.inl rfl) (pe_op op_mod (pe_callTy call_int1 (by rfl) T.n_int PyProof.Rows.Boot.«int» (pa_cons (pe_ix ix_list (pv 0) pe_int (fun _ _ => rfl)) pa_nil)) (pv 1)))
      (pss_cons (ps_asg (pe_op op_fdiv (pe_ix ix_list (pv 0) pe_int (fun _ _ => rfl)) (pv 1)) (pg_sub (pv 0) pe_int set_list))
      (pss_one (ps_ret (pv 2))))) pss_nil)
      (pss_cons (ps_asg (pe_op op_add (pe_ix ix_list (pv 0) pe_int (fun _ _ => rfl)) pe_int) (pg_sub (pv 0) pe_int set_list))
      (pss_cons (ps_set (i := 3) sc__law_take.nd rfl (Or.inl rfl) (pe_ix ix_list (pe_lst (pa_cons pe_int (pa_cons pe_int (pa_cons pe_int (pa_cons pe_int (pa_cons pe_int pa_nil)))))) (pe_op op_mod (pe_callTy call_int1 (by rfl) T.n_int PyProof.Rows.Boot.«int» (pa_cons (pe_ix ix_list (pv 0) pe_int (fun _ _ => rfl)) pa_nil)) pe_int) (fun _ _ => rfl)))
      (pss_cons (ps_set (i := 4) sc__law_take.nd rfl (Or.inl rfl) (pe_op op_mod (pe_callTy call_int1 (by rfl) T.n_int PyProof.Rows.Boot.«int» (pa_cons (pe_op op_pow (pe_op op_add (pe_op op_add (pe_ix ix_list (pv 0) pe_int (fun _ _ => rfl)) (pe_op op_mul (pe_op op_mul pe_int (pe_ix ix_list (pv 0) pe_int (fun _ _ => rfl))) (pe_ix ix_list (pv 0) pe_int (fun _ _ => rfl)))) pe_int) pe_int) pa_nil)) (pv 3)))
      (pss_one (ps_ret (pe_op op_mod (pe_callTy call_int1 (by rfl) T.n_int PyProof.Rows.Boot.«int» (pa_cons (pe_op op_fdiv (pe_op op_mul (pv 4) (pe_op op_add (pe_op op_mod (pe_callTy call_int1 (by rfl) T.n_int PyProof.Rows.Boot.«int» (pa_cons (pv 4) pa_nil)) pe_int) (pe_op op_mul pe_int (pe_ix ix_list (pv 0) pe_int (fun _ _ => rfl))))) pe_int) pa_nil)) (pv 1)))))))), ?_⟩
  walk_at "r"
  refine ite2 (fun hb => ?_) fun hb => ?_
  · have hx0 : 0 < x := of_decide_eq_true hb
    walk_at "r"
    refine k _ (x % n) (fun b o nb e => ?_) ⟨x / n, y, z, upd_same, ?_, hy, hy2, hz, by omega⟩ (Int.emod_nonneg _ (by omega)) (Int.emod_lt_of_pos _ hn)
    · rw [upd_ne nb]
      exact e
    · exact Int.ediv_nonneg hx (by omega)
  · walk_at "r"
    intro q hq
    have nq : p ≠ q := by
      rintro rfl
      rw [upd_same] at hq
      cases hq
    have bt : But p H (upd (upd H p (.lst [.int x, .int y, .int (z + 1)])) q (.lst [.int 2147483647, .int 2147483629, .int 2147483587, .int 2147483579, .int 2147483563])) := fun b o nb e => by
      have n2 : b ≠ q := by
        rintro rfl
        have hq' : upd H p _ b = none := hq
        rw [upd_ne nb, e] at hq'
        cases hq'
      rw [upd_ne n2, upd_ne nb]
      exact e
    have hp1 : (upd (upd H p (.lst [.int x, .int y, .int (z + 1)])) q (.lst [.int 2147483647, .int 2147483629, .int 2147483587, .int 2147483579, .int 2147483563])) p = some (.lst [.int x, .int y, .int (z + 1)]) := by rw [upd_ne nq, upd_same]
    have hq1 : (upd (upd H p (.lst [.int x, .int y, .int (z + 1)])) q (.lst [.int 2147483647, .int 2147483629, .int 2147483587, .int 2147483579, .int 2147483563])) q = some (.lst [.int 2147483647, .int 2147483629, .int 2147483587, .int 2147483579, .int 2147483563]) := upd_same
    change tOp (rI (fun _ j => 0 < j) fun i j => V.int (i % j)) _ _ _ (upd (upd H p (.lst [.int x, .int y, .int (z + 1)])) q (.lst [.int 2147483647, .int 2147483629, .int 2147483587, .int 2147483579, .int 2147483563])) _
    generalize upd (upd H p (.lst [.int x, .int y, .int (z + 1)])) q (.lst [.int 2147483647, .int 2147483629, .int 2147483587, .int 2147483579, .int 2147483563]) = H1 at bt hp1 hq1 ⊢
    walk_at "r"
    obtain ⟨v, hv, hm⟩ := atI_mem (xs := [V.int 2147483647, .int 2147483629, .int 2147483587, .int 2147483579, .int 2147483563]) (i := (z + 1) % 5) (Int.emod_nonneg _ (by decide)) (Int.emod_lt_of_pos _ (by decide))
    obtain ⟨pr, rfl, pr0, pr1⟩ : ∃ pr : Int, v = .int pr ∧ 0 < pr ∧ pr < 2147483648 := by
      simp only [List.mem_cons, List.not_mem_nil, or_false] at hm
      rcases hm with rfl | rfl | rfl | rfl | rfl <;> exact ⟨_, rfl, by decide, by decide⟩
    refine ⟨q, _, _, _, rfl, rfl, SqL.of hq1, hv, ?_⟩
    have hzz : 80021 * (z + 1) * (z + 1) < 90000000000000000 := by
      have h1 : 80021 * (z + 1) * (z + 1) ≤ 80021 * 1000000 * 1000000 := Int.mul_le_mul (Int.mul_le_mul (by decide) (by omega) (by omega) (by decide)) (by omega) (by omega) (by decide)
      omega
    have hzz0 : 0 ≤ 80021 * (z + 1) * (z + 1) := Int.mul_nonneg (Int.mul_nonneg (by decide) (by omega)) (by omega)
    have st0 := Int.emod_nonneg ((y + 80021 * (z + 1) * (z + 1) + 59) ^ Int.toNat 3) (show pr ≠ 0 by omega)
    have st1 := Int.emod_lt_of_pos ((y + 80021 * (z + 1) * (z + 1) + 59) ^ Int.toNat 3) pr0
    walk_at "r"
    exact k H1 _ bt ⟨x, y, z + 1, hp1, hx, hy, hy2, by omega, by omega⟩ (Int.emod_nonneg _ (by omega)) (Int.emod_lt_of_pos _ hn)

def spOf (K : PySem.W.Frag) : Sp := fun vs H Q _ => ∃ (p l : Addr) (c : Int) (xs : List V), vs = [.ref p, .ref l] ∧ PotAt H p c ∧ c < 1000000 ∧ SqL K H l xs ∧ l ≠ p ∧ xs ≠ [] ∧ xs.length < 1000 ∧
  ∀ (H' : Hp) (v : V), But p H H' → PotAt H' p (c + 1) → v ∈ xs → Q v H'
theorem sq_but {p l : Addr} {H H' : Hp} {xs : List V} (b : But p H H') (n : l ≠ p) (h : SqL K H l xs) : SqL K H' l xs := by
  rcases h with (h | ⟨o, h⟩) | h
  · exact .inl (.inl (b _ _ n h))
  · exact .inl (.inr ⟨o, b _ _ n h⟩)
  · exact .inr h
theorem ok_of (T : Tx P K mg) : FnOk P w K mg base CX0 2 T.a__law_of T.fd__law_of ["_law_pot", "_law_some"] (spOf K) := by
  have G__law_take := ok_take (w := w) (base := base) T
  refine T.F__law_of.ok sc__law_of (fun vs H Q E h => ?_) (fun cdv A outer s H vs Q E hr h => ?_)
  · obtain ⟨p, l, c, xs, rfl, _⟩ := h
    rfl
  obtain ⟨p, l, c, xs, rfl, hp, hc, hl, nl, nx, hz, k⟩ := h
  have hz0 : 0 < xs.length := List.length_pos_iff.mpr nx
  refine ⟨_, (pss_one (ps_ret (pe_ix ix_list (pv 1) (pe_call G__law_take (hr.mono (by first | decide | omega)) (by rfl) T.m__law_take T.F__law_take.kp T.b__law_take .nil pass0 (pa_cons (pv 0) (pa_cons (pe_callB call_len (by rfl) T.n_len PyProof.Rows.Boot.«len» (pa_cons (pv 1) pa_nil)) pa_nil))) (fun _ _ => rfl)))), ?_⟩
  refine ⟨_, rfl, _, rfl, _, rfl, _, _, rfl, .inl ⟨_, hl, rfl⟩, p, c, _, rfl, hp, hc, by omega, by omega, fun H' r bt hp' h0 h1 => ?_⟩
  obtain ⟨v, hv, hm⟩ := atI_mem h0 h1
  exact ⟨l, xs, r, v, rfl, rfl, sq_but bt nl hl, hv, k H' v bt hp' hm⟩

def spPot (K : PySem.W.Frag) : Sp := fun vs H Q _ => ∃ (a : Addr) (ns : List Int) (i : Int), vs = [.ref a, .int i] ∧ SqL K H a (ns.map V.int) ∧ ns.length ≤ 63 ∧ 0 ≤ i ∧ i < 100 ∧
  ∀ (H' : Hp) (p : Addr), Same H H' → H p = none → PotAt H' p 0 → Q (.ref p) H'
theorem cmul_b {x : Int} {c : Bool} : CMul x (if c = true then 1 else 0) := .inr (by cases c <;> decide)
theorem own_nn {x m : Int} {c : Bool} (hm : 0 < m) : 0 ≤ x % m * (if c = true then 1 else 0) := Int.mul_nonneg (Int.emod_nonneg _ (by omega)) (by cases c <;> decide)
local macro_rules | `(tactic| walk_at "pot") => `(tactic| (
  walk_at "r"
  refine ⟨cmul_b, ?_⟩
  walk_at "r"))
theorem ok_pot (T : Tx P K mg) : FnOk P w K mg base CX0 1 T.a__law_pot_of T.fd__law_pot_of ["_law_script", "_law_k"] (spPot K) := by
  refine T.F__law_pot_of.ok sc__law_pot_of (fun vs H Q E h => ?_) (fun cdv A outer s H vs Q E hr h => ?_)
  · obtain ⟨a, ns, i, rfl, _⟩ := h
    rfl
  obtain ⟨a, ns, i, rfl, ha, hz, h0, h1, k⟩ := h
  refine ⟨_, (pss_cons (ps_set (i := 2) sc__law_pot_of.nd rfl (Or.inl rfl) (pe_ifExp (pt_cmpR op_lt (pv 1) (pe_callB call_len (by rfl) T.n_len PyProof.Rows.Boot.«len» (pa_cons (pv 0) pa_nil)) (nomark _)) (pe_ix ix_list (pv 0) (pv 1) (fun _ _ => rfl)) (pe_op op_add (pe_op op_mul pe_int (pv 1)) pe_int)))
      (pss_cons (ps_set (i := 3) sc__law_pot_of.nd rfl (Or.inl rfl) (pe_op op_mul (pe_op op_mod (pe_callTy call_int1 (by rfl) T.n_int PyProof.Rows.Boot.«int» (pa_cons (pe_callB call_abs (by rfl) T.n_abs PyProof.Rows.Boot.«abs» (pa_cons (pv 2) pa_nil)) pa_nil)) (pe_op op_powW (pe_op op_pow pe_int pe_int) pe_int)) (pe_callTy call_int1 (by rfl) T.n_int PyProof.Rows.Boot.«int» (pa_cons (pe_cmpR op_ge (pe_callB call_abs (by rfl) T.n_abs PyProof.Rows.Boot.«abs» (pa_cons (pv 2) pa_nil)) (pe_op op_pow pe_int pe_int) (nomark _)) pa_nil))))
      (pss_one (ps_ret (pe_lst (pa_cons (pv 3) (pa_cons (pe_op op_mod (pe_callTy call_int1 (by rfl) T.n_int PyProof.Rows.Boot.«int» (pa_cons (pe_op op_add (pe_op op_add (pe_op op_mul (pe_op op_mod (pe_callTy call_int1 (by rfl) T.n_int PyProof.Rows.Boot.«int» (pa_cons (pv 2) pa_nil)) pe_int) pe_int) (pe_op op_mul (pe_op op_mul pe_int (pv 1)) (pv 1))) pe_int) pa_nil)) pe_int) (pa_cons pe_int pa_nil)))))))), ?_⟩
  refine ⟨_, rfl, _, rfl, _, _, rfl, .inl ⟨_, ha, rfl⟩, _, _, rfl, rfl, _, rfl, ite2 (fun hb => ?_) fun hb => ?_⟩
  · obtain ⟨v, hv, hm⟩ := atI_mem (xs := ns.map V.int) h0 (of_decide_eq_true hb)
    obtain ⟨cell, _, rfl⟩ := List.mem_map.mp hm
    refine ⟨_, rfl, _, rfl, a, _, _, _, rfl, rfl, ha, hv, ?_⟩
    walk_at "pot"
    exact fun p np => k _ p (same_new np) np ⟨_, _, _, upd_same, own_nn (by decide), Int.emod_nonneg _ (by decide), Int.emod_lt_of_pos _ (by decide), Int.le_refl _, Int.le_refl _⟩
  · walk_at "r"
    walk_at "pot"
    exact fun p np => k _ p (same_new np) np ⟨_, _, _, upd_same, own_nn (by decide), Int.emod_nonneg _ (by decide), Int.emod_lt_of_pos _ (by decide), Int.le_refl _, Int.le_refl _⟩
end
end K13
end
section
set_option Elab.async false
set_option linter.all false
set_option maxRecDepth 100000
set_option maxHeartbeats 4000000
namespace K13
open PySem PySem.Spec PyProof.Rows L2 Tg
local macro_rules | `(tactic| walk_at "c") => `(tactic| first | assumption | trivial | omega | (constructor <;> omega) | decide | exact len_ok (Nat.le_of_ble_eq_true rfl))
local macro_rules | `(tactic| walk_at "sq") => `(tactic| first | exact SqL.of (by assumption) | exact SqL.of upd_same | assumption | exact SqT.of (by assumption) | exact SqT.of upd_same | exact .inl (SqL.of (by assumption)) | exact .inr (SqT.of (by assumption)))
local macro_rules | `(tactic| walk_at "r1") => `(tactic| first
  | refine ⟨_, rfl, ?_⟩
  | refine ⟨_, _, rfl, rfl, ?_⟩
  | refine .inl ⟨_, rfl, ?_⟩
  | refine .inr ⟨_, rfl, ?_⟩
  | (apply Exists.intro; apply Exists.intro; apply Exists.intro; apply Exists.intro; refine And.intro rfl (And.intro rfl (And.intro ?sq ?_)); (case sq => walk_at "sq"); refine And.intro rfl ?_)
  | (apply Exists.intro; apply Exists.intro; apply Exists.intro; apply Exists.intro; refine And.intro rfl (And.intro rfl (And.intro ?hp ?_)); (case hp => first | assumption | exact upd_same); refine And.intro rfl ?_)
  | (refine And.intro ?c ?_; (case c => walk_at "c")))
local macro_rules | `(tactic| walk_at "r") => `(tactic| repeat walk_at "r1")
/-! ### things -/
def bd : Nat → Nat
  | 0 => 30
  | n + 1 => 2 * bd n + 30
structure Sm (n : Nat) (d : PyData) : Prop where
  sh : d.showable = true
  dp : d.depth ≤ n + 2
  ln : d.shown.length ≤ bd n
def smB (n : Nat) (d : PyData) : Bool := d.showable && decide (d.depth ≤ n + 2) && decide (d.shown.length ≤ bd n)
theorem smB_ok {n : Nat} {d : PyData} (h : smB n d = true) : Sm n d := by
  unfold smB at h
  simp only [Bool.and_eq_true, decide_eq_true_eq] at h
  exact ⟨h.1.1, h.1.2, h.2⟩
theorem bd_mono (n : Nat) : bd n ≤ bd (n + 1) := by
  show bd n ≤ 2 * bd n + 30
  omega
theorem bd_le : ∀ n, 30 ≤ bd n
  | 0 => Nat.le_refl _
  | n + 1 => Nat.le_trans (bd_le n) (bd_mono n)
theorem Sm.up {n : Nat} {d : PyData} (h : Sm n d) : Sm (n + 1) d := ⟨h.sh, Nat.le_succ_of_le h.dp, Nat.le_trans h.ln (bd_mono n)⟩
theorem Sm.any {d : PyData} (h : Sm 0 d) : ∀ n, Sm n d
  | 0 => h
  | n + 1 => (h.any n).up
theorem sm_t1 {n : Nat} {d : PyData} (h : Sm n d) : Sm (n + 1) (.tuple [d]) := by
  refine ⟨by simp [PyData.showable, PyData.showableAll, h.sh], ?_, ?_⟩
  · have := h.dp
    simp only [PyData.depth, PyData.depthAll]
    omega
  · have := h.ln
    rw [PyData.shown_tuple]
    simp only [PyData.shownAll, Str.join, strLen_append]
    show 1 + _ + 2 ≤ 2 * bd n + 30
    omega
theorem sm_l2 {n : Nat} {d : PyData} (h : Sm n d) : Sm (n + 1) (.list [d, d]) := by
  refine ⟨by simp [PyData.showable, PyData.showableAll, h.sh], ?_, ?_⟩
  · have := h.dp
    simp only [PyData.depth, PyData.depthAll]
    omega
  · have := h.ln
    rw [PyData.shown_list]
    simp only [PyData.shownAll, Str.join, strLen_append]
    show 1 + (_ + 2 + _) + 1 ≤ 2 * bd n + 30
    omega
theorem sm_d1 {n : Nat} {d : PyData} (h : Sm n d) : Sm (n + 1) (.dict [(.str "x", d)]) := by
  refine ⟨by simp [PyData.showable, PyData.showableKv, h.sh], ?_, ?_⟩
  · have := h.dp
    simp only [PyData.depth, PyData.depthKv]
    omega
  · have := h.ln
    have e : (PyData.str "x").shown.length = 3 := by decide +kernel
    rw [PyData.shown_dict]
    simp only [PyData.shownKv, Str.join, strLen_append, e]
    show 1 + (3 + 2 + _) + 1 ≤ 2 * bd n + 30
    omega
theorem sm_t3 {n : Nat} {d : PyData} (h : Sm n d) : Sm (n + 1) (.tuple [.str "a", d, .tuple []]) := by
  refine ⟨by simp [PyData.showable, PyData.showableAll, h.sh], ?_, ?_⟩
  · have := h.dp
    simp only [PyData.depth, PyData.depthAll]
    omega
  · have := h.ln
    have e : (PyData.str "a").shown.length = 3 := by decide +kernel
    have e2 : (PyData.tuple []).shown.length = 2 := by decide +kernel
    rw [PyData.shown_tuple]
    simp only [PyData.shownAll, Str.join, strLen_append, e, e2]
    show 1 + (3 + 2 + (_ + 2 + 2)) + 1 ≤ 2 * bd n + 30
    omega

def spThing : Nat → Sp
  | 0 => fun _ _ _ _ => False
  | n + 1 => fun vs H Q _ => ∃ (p : Addr) (c : Int), vs = [.ref p, .int (n : Int)] ∧ PotAt H p c ∧ c + 2 * n + 2 < 1000000 ∧
      ∀ (H' : Hp) (v : V) (d : PyData), But p H H' → PotAt H' p (c + 2 * n + 2) → Rp H' d v → Sm n d → Q v H'
theorem PotAt.up {H : Hp} {p : Addr} {c c' : Int} (h : PotAt H p c) (l : c ≤ c') : PotAt H p c' := by
  obtain ⟨x, y, z, e, a, b, d, f, g⟩ := h.ex
  exact ⟨x, y, z, e, a, b, d, f, by omega⟩
theorem PotAt.same {H H' : Hp} {p : Addr} {c : Int} (h : PotAt H p c) (s : Same H H') : PotAt H' p c := by
  obtain ⟨x, y, z, e, r⟩ := h.ex
  exact ⟨x, y, z, s _ _ e, r⟩
theorem kp_but {H H' : Hp} {p : Addr} {c : Int} (h : PotAt H p c) (b : But p H H') : Kp H H' := by
  obtain ⟨x, y, z, e, r⟩ := h.ex
  exact ⟨fun a o u q => b a _ (ne_of q e (fun z => nomatch z)) q, fun a xs q => b a _ (ne_of q e (fun z => nomatch z)) q⟩
section
variable {P : Program} {w : World} {K : PySem.W.Frag} {mg : Str → Option Value} {base : Heap}
theorem ok_thing (T : Tx P K mg) (n : Nat) : FnOk P w K mg base CX0 (n + 2) T.a__law_thing T.fd__law_thing ["_law_pot", "_law_deep"] (spThing n) := by
  have G__law_take := ok_take (w := w) (base := base) T
  have G__law_of := ok_of (w := w) (base := base) T
  induction n with
  | zero => exact ⟨fun vs H Q E h => h.elim, fun A outer s H args us vs Q E hr e0 hb r h => h.elim⟩
  | succ n G__law_thing =>
    refine T.F__law_thing.ok sc__law_thing (fun vs H Q E h => ?_) (fun cdv A outer s H vs Q E hr h => ?_)
    · obtain ⟨p, c, rfl, _⟩ := h
      rfl
    obtain ⟨p, c, rfl, hp, hc, k⟩ := h
    refine ⟨_, (pss_cons (ps_set (i := 2) sc__law_thing.nd rfl (Or.inl rfl) (pe_lst (pa_cons pe_non (pa_cons pe_bl (pa_cons pe_bl (pa_cons pe_int (pa_cons pe_int (pa_cons (pe_un un_neg pe_int) (pa_cons (pe_op op_pow pe_int pe_int) (pa_cons pe_str (pa_cons pe_str (pa_cons pe_str (pa_cons (pe_tup pa_nil) (pa_cons (pe_fz (pe_lst pa_nil)) (pa_cons (pe_fz pe_dnewK) pa_nil)))))))))))))))
      (pss_cons (ps_set (i := 2) sc__law_thing.nd rfl (Or.inl rfl) (pe_op op_cat (pv 2) (pe_lst (pa_cons (pe_tup (pa_cons pe_non pa_nil)) (pa_cons (pe_fz (pe_lst (pa_cons pe_int (pa_cons (pe_tup (pa_cons pe_int pa_nil)) pa_nil)))) (pa_cons (pe_fz (pe_disp (pps_cons pe_str (pe_fz (pe_lst pa_nil)) pps_nil) (by rfl) (by rfl) (fun z => by cases z) (by decide))) (pa_cons (pe_fz (pe_disp (pps_cons pe_int pe_str pps_nil) (by rfl) (by rfl) (fun z => by cases z) (by decide))) pa_nil)))))))
      (pss_cons (ps_if (PW.pt (pw_and (pt_cmpR op_gt (pv 1) pe_int (nomark _)) (pw_and1 (pt_cmpR op_eq (pe_call G__law_take (hr.mono (by first | decide | omega)) (by rfl) T.m__law_take T.F__law_take.kp T.b__law_take .nil pass0 (pa_cons (pv 0) (pa_cons pe_int pa_nil))) pe_int (nomark _))))) (pss_cons (ps_set (i := 3) sc__law_thing.nd rfl (Or.inl rfl) (pe_call G__law_thing (hr.mono (by first | decide | omega)) (by rfl) T.m__law_thing T.F__law_thing.kp T.b__law_thing .nil pass0 (pa_cons (pv 0) (pa_cons (pe_op op_sub (pv 1) pe_int) pa_nil))))
      (pss_one (ps_ret (pe_call G__law_of (hr.mono (by first | decide | omega)) (by rfl) T.m__law_of T.F__law_of.kp T.b__law_of .nil pass0 (pa_cons (pv 0) (pa_cons (pe_lst (pa_cons (pe_tup (pa_cons (pv 3) pa_nil)) (pa_cons (pe_fz (pe_lst (pa_cons (pv 3) (pa_cons (pv 3) pa_nil)))) (pa_cons (pe_fz (pe_disp (pps_cons pe_str (pv 3) pps_nil) (by rfl) (by rfl) (fun z => by cases z) (by decide))) (pa_cons (pe_tup (pa_cons pe_str (pa_cons (pv 3) (pa_cons (pe_tup pa_nil) pa_nil)))) pa_nil))))) pa_nil)))))) pss_nil)
      (pss_one (ps_ret (pe_call G__law_of (hr.mono (by first | decide | omega)) (by rfl) T.m__law_of T.F__law_of.kp T.b__law_of .nil pass0 (pa_cons (pv 0) (pa_cons (pv 2) pa_nil)))))))), ?_⟩
    -- the odds
    walk_at "r"
    intro p1 n1
    obtain ⟨H1, e1, s1, r1⟩ := g_tup n1 RpL.nil
    rw [e1]
    walk_at "r"
    intro p2 n2
    refine ⟨p2, _, rfl, upd_same, True.intro, fun o2 => ?_⟩
    obtain ⟨H2, e2, s2, r2⟩ := g_lst (o := o2) n2 RpL.nil
    rw [e2]
    walk_at "r"
    intro p3 n3
    refine ⟨p3, _, rfl, upd_same, True.intro, fun o3 => ?_⟩
    obtain ⟨H3, e3, s3, r3⟩ := g_dct0 (o := o3) n3
    rw [e3]
    walk_at "r"
    intro l4 n4
    obtain ⟨H4, e4, s4, h4⟩ := g_mut (xs := [.non, .bl true, .bl false, .int 0, .int 1, .int (-7), .int (10 ^ Int.toNat 18), .str "", .str "a", .str "NoKind", .ref p1, .ref p2, .ref p3]) n4
    rw [e4]
    walk_at "r"
    intro p5 n5
    obtain ⟨H5, e5, s5, r5⟩ := g_tup n5 (RpL.cons Rp.non RpL.nil)
    rw [e5]
    walk_at "r"
    intro p6 n6
    obtain ⟨H6, e6, s6, r6⟩ := g_tup n6 (RpL.cons (Rp.int (i := 2)) RpL.nil)
    rw [e6]
    walk_at "r"
    intro p7 n7
    refine ⟨p7, _, rfl, upd_same, True.intro, fun o7 => ?_⟩
    obtain ⟨H7, e7, s7, r7⟩ := g_lst (o := o7) n7 (RpL.cons (Rp.int (i := 1)) (RpL.cons r6 RpL.nil))
    rw [e7]
    walk_at "r"
    intro p8 n8
    walk_at "r"
    intro p9 n9
    refine ⟨p9, _, rfl, upd_same, True.intro, fun o9 => ?_⟩
    obtain ⟨H9, e9, s9, r9⟩ := g_lst (o := o9) n9 RpL.nil
    rw [e9]
    refine ⟨s9 _ _ upd_same, [(.inr "x", .ref p9)], rfl, by show 1 ≤ 15; decide, p8, _, rfl, upd_same, True.intro, fun o8 => ?_⟩
    obtain ⟨H8, e8, s8, r8⟩ := g_dct1 (o := o8) (k := .inr "x") n8 s9 r9
    rw [e8]
    walk_at "r"
    intro p10 n10
    refine ⟨upd_same, [(.inl 1, .str "a")], rfl, by decide, p10, _, rfl, upd_same, True.intro, fun o10 => ?_⟩
    obtain ⟨H10, e10, s10, r10⟩ := g_dct1 (o := o10) (k := .inl 1) (v := .str "a") n10 (Same.refl _) Rp.str
    rw [e10]
    walk_at "r"
    intro l11 n11
    obtain ⟨H11, e11, s11, h11⟩ := g_mut (xs := [.ref p5, .ref p7, .ref p8, .ref p10]) n11
    rw [e11]
    have s5a : Same H5 H11 := ((((s6.trans s7).trans s8).trans s10).trans s11)
    have s4a : Same H4 H11 := s5.trans s5a
    refine ⟨l4, l11, _, _, rfl, rfl, s4a _ _ h4, h11, by show 17 ≤ sizeLine; decide, fun l12 n12 => ?_⟩
    obtain ⟨H12, e12, s12, h12⟩ := g_mut (xs := [.non, .bl true, .bl false, .int 0, .int 1, .int (-7), .int (10 ^ Int.toNat 18), .str "", .str "a", .str "NoKind", .ref p1, .ref p2, .ref p3] ++ [.ref p5, .ref p7, .ref p8, .ref p10]) n12
    rw [e12]
    have sA : Same H H12 := ((((s1.trans s2).trans s3).trans s4).trans s4a).trans s12
    have good : ∀ v, v ∈ ([.non, .bl true, .bl false, .int 0, .int 1, .int (-7), .int (10 ^ Int.toNat 18), .str "", .str "a", .str "NoKind", .ref p1, .ref p2, .ref p3] ++ [.ref p5, .ref p7, .ref p8, .ref p10] : List V) → ∃ d, Rp H12 d v ∧ Sm 0 d := by
      intro v hv
      simp only [List.mem_append, List.mem_cons, List.not_mem_nil, or_false] at hv
      rcases hv with (rfl | rfl | rfl | rfl | rfl | rfl | rfl | rfl | rfl | rfl | rfl | rfl | rfl) | rfl | rfl | rfl | rfl
      · exact ⟨_, Rp.non, smB_ok (by decide +kernel)⟩
      · exact ⟨_, Rp.bl, smB_ok (by decide +kernel)⟩
      · exact ⟨_, Rp.bl, smB_ok (by decide +kernel)⟩
      · exact ⟨_, Rp.int, smB_ok (by decide +kernel)⟩
      · exact ⟨_, Rp.int, smB_ok (by decide +kernel)⟩
      · exact ⟨_, Rp.int, smB_ok (by decide +kernel)⟩
      · exact ⟨_, Rp.int, smB_ok (by decide +kernel)⟩
      · exact ⟨_, Rp.str, smB_ok (by decide +kernel)⟩
      · exact ⟨_, Rp.str, smB_ok (by decide +kernel)⟩
      · exact ⟨_, Rp.str, smB_ok (by decide +kernel)⟩
      · exact ⟨_, r1.same ((((s2.trans s3).trans s4).trans s4a).trans s12), smB_ok (by decide +kernel)⟩
      · exact ⟨_, r2.same (((s3.trans s4).trans s4a).trans s12), smB_ok (by decide +kernel)⟩
      · exact ⟨_, r3.same ((s4.trans s4a).trans s12), smB_ok (by decide +kernel)⟩
      · exact ⟨_, r5.same (s5a.trans s12), smB_ok (by decide +kernel)⟩
      · exact ⟨_, r7.same (((s8.trans s10).trans s11).trans s12), smB_ok (by decide +kernel)⟩
      · exact ⟨_, r8.same ((s10.trans s11).trans s12), smB_ok (by decide +kernel)⟩
      · exact ⟨_, r10.same (s11.trans s12), smB_ok (by decide +kernel)⟩
    have hp12 := hp.same sA
    have nl : l12 ≠ p := by
      rintro rfl
      obtain ⟨_, _, _, z, _⟩ := (hp.same ((((s1.trans s2).trans s3).trans s4).trans s4a)).ex
      rw [n12] at z
      cases z
    have fin : ∀ (Hx : Hp) (c' : Int), But p H12 Hx → PotAt Hx p c' → c' < 1000000 → c' + 1 ≤ c + 2 * (n : Int) + 2 → spOf K [.ref p, .ref l12] Hx Q E0 := fun Hx c' bx hpx hc1 hc2 =>
      ⟨p, l12, c', _, rfl, hpx, hc1, SqL.of (bx _ _ nl h12), nl, by simp, by show 17 < 1000; decide, fun H' v bv hp' hm => by
        obtain ⟨d, r, sm⟩ := good v hm
        exact k H' v d (((But.same sA).trans bx).trans bv) (hp'.up hc2) (r.keep ((kp_but hp12 bx).trans (kp_but hpx bv))) (sm.any n)⟩
    walk_at "r"
    refine ite2 (fun hb => ?_) fun hb => ?_
    · cases n with
      | zero => exact absurd (of_decide_eq_true hb) (by decide)
      | succ m =>
        refine ⟨_, rfl, p, c, 3, rfl, hp12, by omega, by decide, by decide, fun H13 r bt13 hp13 r0 r3 => ?_⟩
        refine ⟨rfl, _, rfl, ite2 (fun hz => ?_) fun hz => ?_⟩
        · have em : ((m + 1 : Nat) : Int) - 1 = (m : Int) := by omega
          refine ⟨_, rfl, _, rfl, _, _, rfl, rfl, p, c + 1, ?_, hp13, by omega, fun H14 v d bt14 hp14 rd smd => ?_⟩
          · show [V.ref p, V.int (((m + 1 : Nat) : Int) - 1)] = _
            rw [em]
          walk_at "r"
          intro q1 m1
          obtain ⟨G1, f1, u1, v1⟩ := g_tup m1 (RpL.cons rd RpL.nil)
          rw [f1]
          walk_at "r"
          intro q2 m2
          refine ⟨q2, _, rfl, upd_same, True.intro, fun x2 => ?_⟩
          obtain ⟨G2, f2, u2, v2⟩ := g_lst (o := x2) m2 (RpL.cons (rd.same u1) (RpL.cons (rd.same u1) RpL.nil))
          rw [f2]
          walk_at "r"
          intro q3 m3
          walk_at "r"
          refine ⟨upd_same, [(.inr "x", v)], rfl, by show 1 ≤ 15; decide, q3, _, rfl, upd_same, True.intro, fun x3 => ?_⟩
          obtain ⟨G3, f3, u3, v3⟩ := g_dct1 (o := x3) (k := .inr "x") m3 (Same.refl _) (rd.same ((u1.trans u2).trans (same_new m3)))
          rw [f3]
          walk_at "r"
          intro q4 m4
          obtain ⟨G4, f4, u4, v4⟩ := g_tup m4 RpL.nil
          rw [f4]
          walk_at "r"
          intro q5 m5
          obtain ⟨G5, f5, u5, v5⟩ := g_tup m5 (RpL.cons (Rp.str (x := "a")) (RpL.cons (rd.same (((u1.trans u2).trans u3).trans u4)) (RpL.cons v4 RpL.nil)))
          rw [f5]
          walk_at "r"
          intro l6 m6
          obtain ⟨G6, f6, u6, h6⟩ := g_mut (xs := [.ref q1, .ref q2, .ref q3, .ref q5]) m6
          rw [f6]
          have uA : Same H14 G5 := (((u1.trans u2).trans u3).trans u4).trans u5
          have hpG : PotAt G6 p (c + 1 + 2 * (m : Int) + 2) := hp14.same (uA.trans u6)
          have nl6 : l6 ≠ p := by
            rintro rfl
            obtain ⟨_, _, _, z, _⟩ := (hp14.same uA).ex
            rw [m6] at z
            cases z
          refine ⟨p, l6, c + 1 + 2 * (m : Int) + 2, _, rfl, hpG, by omega, SqL.of h6, nl6, by simp, by show 4 < 1000; decide, fun H' v' bv hp' hm => ?_⟩
          have fin2 : ∀ d', Rp G6 d' v' → Sm (m + 1) d' → Q v' H' := fun d' r' sm' =>
            k H' v' d' (((((But.same sA).trans bt13).trans bt14).trans (But.same (uA.trans u6))).trans bv) (hp'.up (by omega)) (r'.keep (kp_but hpG bv)) sm'
          simp only [List.mem_cons, List.not_mem_nil, or_false] at hm
          rcases hm with rfl | rfl | rfl | rfl
          · exact fin2 _ (v1.same ((((u2.trans u3).trans u4).trans u5).trans u6)) (sm_t1 smd)
          · exact fin2 _ (v2.same (((u3.trans u4).trans u5).trans u6)) (sm_l2 smd)
          · exact fin2 _ (v3.same ((u4.trans u5).trans u6)) (sm_d1 smd)
          · exact fin2 _ (v5.same u6) (sm_t3 smd)
        · refine ⟨_, rfl, _, rfl, fin H13 (c + 1) bt13 hp13 (by omega) (by omega)⟩
    · refine ⟨_, rfl, _, rfl, fin H12 c But.refl hp12 (by omega) (by omega)⟩
end
end K13
end
section
set_option Elab.async false
set_option linter.all false
set_option maxRecDepth 100000
set_option maxHeartbeats 8000000
namespace K13
open PySem PySem.Spec PyProof.Rows L2 Tg
local macro_rules | `(tactic| walk_at "c") => `(tactic| first | assumption | trivial | omega | (constructor <;> omega) | decide | exact len_ok (Nat.le_of_ble_eq_true rfl))
local macro_rules | `(tactic| walk_at "sq") => `(tactic| first | exact SqL.of (by assumption) | exact SqL.of upd_same | assumption | exact SqT.of (by assumption) | exact SqT.of upd_same | exact .inl (SqL.of (by assumption)) | exact .inr (SqT.of (by assumption)))
local macro_rules | `(tactic| walk_at "r1") => `(tactic| first
  | refine ⟨_, rfl, ?_⟩
  | refine ⟨_, _, rfl, rfl, ?_⟩
  | refine .inl ⟨_, rfl, ?_⟩
  | refine .inr ⟨_, rfl, ?_⟩
  | (apply Exists.intro; apply Exists.intro; apply Exists.intro; apply Exists.intro; refine And.intro rfl (And.intro rfl (And.intro ?sq ?_)); (case sq => walk_at "sq"); refine And.intro rfl ?_)
  | (apply Exists.intro; apply Exists.intro; apply Exists.intro; apply Exists.intro; refine And.intro rfl (And.intro rfl (And.intro ?hp ?_)); (case hp => first | assumption | exact upd_same); refine And.intro rfl ?_)
  | (refine And.intro ?c ?_; (case c => walk_at "c")))
local macro_rules | `(tactic| walk_at "r") => `(tactic| repeat walk_at "r1")
/-! ### errors of all classes -/
def cls {P : Program} {K : PySem.W.Frag} {mg : Str → Option Value} (T : Tx P K mg) : List Addr := [T.C_NoKind, T.C_NoDocument, T.C_BadBook, T.C_Unnamed, T.C_Ring, T.C_BadForms, T.C_Clash, T.C_NoReading, T.C_BadReading, T.C_BadSide, T.C_TooLarge, T.C_NotEither, T.C_BadOrder, T.C_NoOrder, T.C_TooMany, T.C_BadMember, T.C_BadPlace, T.C_BadField, T.C_NoField, T.C_BadDraft, T.C_BadRoad, T.C_BadChanges, T.C_BadOffers, T.C_BadWish, T.C_BadEdition, T.C_BadTruth, T.C_Broken, T.C_NotKept, T.C_NoNumber, T.C_Turned, T.C_NothingToUndo, T.C_NothingToRedo, T.C_NoTrial, T.C_BadText, T.C_BadJournal, T.C_BadLine]
abbrev Made (H : Hp) (v : V) : List Addr → List Addr → Prop := Paired fun a C => Err H a C v
theorem paired_app {α β : Type} {F : α → β → Prop} : ∀ {l1 l2 : List α} {m1 m2 : List β}, Paired F l1 m1 → Paired F l2 m2 → Paired F (l1 ++ l2) (m1 ++ m2)
  | _, _, _, _, .nil, h => h
  | _, _, _, _, .cons a b, h => .cons a (paired_app b h)
theorem made_keep {H H' : Hp} {v : V} {as Cs : List Addr} (m : Made H v as Cs) (s : Same H H') : Made H' v as Cs := Paired.mapP m fun _ _ e => e.keep s
theorem g_err {H : Hp} {a d C : Addr} {v : V} (na : H a = none) (nd : H d = none) (ne : d ≠ a) : ∃ H1, upd (upd H d (.xd [("value", v)])) a (exq a C d) = H1 ∧ Same H H1 ∧ Err H1 a C v := by
  refine ⟨_, rfl, fun b o e => ?_, ⟨d, upd_same, by rw [upd_ne ne, upd_same]⟩⟩
  rw [upd_ne (ne_of_none e na), upd_ne (ne_of_none e nd)]
  exact e
/-- C1(x), C2(x), .. -/
def tas : List Addr → TA
  | [] => tNil
  | C :: Cs => tCons (tErr C (tVar 0)) (tas Cs)
theorem rd_errs {σ : L2.St} {v : V} (h0 : σ[0]? = some (some v)) : ∀ (Cs : List Addr) (H : Hp) (Q : List V → Hp → Prop), (∀ H' as, Same H H' → Made H' v as Cs → Q (as.map V.ref) H') → tas Cs σ H Q
  | [], H, Q, k => k H [] (Same.refl H) .nil
  | C :: Cs, H, Q, k => by
    refine ⟨v, h0, fun a d na nd ne => ?_⟩
    obtain ⟨H1, e, s, r⟩ := g_err (C := C) (v := v) na nd ne
    rw [e]
    exact rd_errs h0 Cs H1 _ fun H' as s' m => k H' (a :: as) (s.trans s') (.cons (r.keep s') m)
theorem made_len {H : Hp} {v : V} {as Cs : List Addr} (m : Made H v as Cs) : as.length = Cs.length := Paired.length m
theorem rd_lst {σ : L2.St} {v : V} {Cs : List Addr} {H : Hp} {Q : VK} (h0 : σ[0]? = some (some v)) (hz : Cs.length ≤ 1000) (k : ∀ H' l as, Same H H' → H l = none → H' l = some (.lst (as.map V.ref)) → Made H' v as Cs → Q (.ref l) H') :
    tLst (tas Cs) σ H Q := by
  refine rd_errs h0 Cs H _ fun H' as s m => ⟨?_, fun p n => ?_⟩
  · rw [List.length_map, made_len m, sizeLine_eq]
    omega
  · exact k _ p as (s.trans (same_new n)) (s.free n) upd_same (made_keep m (same_new n))
theorem rd_cat {σ : L2.St} {v : V} {L : Addr} {as0 C0 Cs : List Addr} {H : Hp} {Q : VK} (h0 : σ[0]? = some (some v)) (h1 : σ[1]? = some (some (.ref L))) (hL : H L = some (.lst (as0.map V.ref))) (m0 : Made H v as0 C0) (hz : C0.length + Cs.length ≤ 1000)
    (k : ∀ H' l as, Same H H' → H l = none → H' l = some (.lst (as.map V.ref)) → Made H' v as (C0 ++ Cs) → Q (.ref l) H') : tOp rCat (tVar 1) (tLst (tas Cs)) σ H Q := by
  refine ⟨_, h1, rd_lst h0 (by omega) fun H' l as s nl hl m => ⟨L, l, _, _, rfl, rfl, s _ _ hL, hl, ?_, fun p n => ?_⟩⟩
  · rw [List.length_map, List.length_map, made_len m, made_len m0, sizeLine_eq]
    omega
  · refine k _ p (as0 ++ as) (s.trans (same_new n)) (s.free n) ?_ (paired_app (made_keep m0 (s.trans (same_new n))) (made_keep m (same_new n)))
    rw [upd_same, List.map_append]

def spMade (Cs : List Addr) : Sp := fun vs H Q _ => ∃ v : V, vs = [v] ∧ ∀ (H' : Hp) (l : Addr) (as : List Addr), Same H H' → H l = none → H' l = some (.lst (as.map V.ref)) → Made H' v as Cs → Q (.ref l) H'
section
variable {P : Program} {w : World} {K : PySem.W.Frag} {mg : Str → Option Value} {base : Heap}
theorem ok_made (T : Tx P K mg) : FnOk P w K mg base CX0 3 T.a__law_made T.fd__law_made ["_law_thing_here"] (spMade (cls T)) := by
  refine T.F__law_made.ok sc__law_made (fun vs H Q E h => ?_) (fun cdv A outer s H vs Q E hr h => ?_)
  · obtain ⟨v, rfl, _⟩ := h
    rfl
  obtain ⟨v, rfl, k⟩ := h
  refine ⟨_, (pss_cons (ps_set (i := 1) sc__law_made.nd rfl (Or.inl rfl) (pe_lst (pa_cons (pe_err T.e_NoKind T.ini (hr.mono (by first | decide | omega)) (by rfl) T.m_NoKind T.b_ini (pv 0)) (pa_cons (pe_err T.e_NoDocument T.ini (hr.mono (by first | decide | omega)) (by rfl) T.m_NoDocument T.b_ini (pv 0)) (pa_cons (pe_err T.e_BadBook T.ini (hr.mono (by first | decide | omega)) (by rfl) T.m_BadBook T.b_ini (pv 0)) (pa_cons (pe_err T.e_Unnamed T.ini (hr.mono (by first | decide | omega)) (by rfl) T.m_Unnamed T.b_ini (pv 0)) (pa_cons (pe_err T.e_Ring T.ini (hr.mono (by first | decide | omega)) (by rfl) T.m_Ring T.b_ini (pv 0)) (pa_cons (pe_err T.e_BadForms T.ini (hr.mono (by first | decide | omega)) (by rfl) T.m_BadForms T.b_ini (pv 0)) pa_nil))))))))
      (pss_cons (ps_set (i := 1) sc__law_made.nd rfl (Or.inl rfl) (pe_op op_cat (pv 1) (pe_lst (pa_cons (pe_err T.e_Clash T.ini (hr.mono (by first | decide | omega)) (by rfl) T.m_Clash T.b_ini (pv 0)) (pa_cons (pe_err T.e_NoReading T.ini (hr.mono (by first | decide | omega)) (by rfl) T.m_NoReading T.b_ini (pv 0)) (pa_cons (pe_err T.e_BadReading T.ini (hr.mono (by first | decide | omega)) (by rfl) T.m_BadReading T.b_ini (pv 0)) (pa_cons (pe_err T.e_BadSide T.ini (hr.mono (by first | decide | omega)) (by rfl) T.m_BadSide T.b_ini (pv 0)) (pa_cons (pe_err T.e_TooLarge T.ini (hr.mono (by first | decide | omega)) (by rfl) T.m_TooLarge T.b_ini (pv 0)) pa_nil))))))))
      (pss_cons (ps_set (i := 1) sc__law_made.nd rfl (Or.inl rfl) (pe_op op_cat (pv 1) (pe_lst (pa_cons (pe_err T.e_NotEither T.ini (hr.mono (by first | decide | omega)) (by rfl) T.m_NotEither T.b_ini (pv 0)) (pa_cons (pe_err T.e_BadOrder T.ini (hr.mono (by first | decide | omega)) (by rfl) T.m_BadOrder T.b_ini (pv 0)) (pa_cons (pe_err T.e_NoOrder T.ini (hr.mono (by first | decide | omega)) (by rfl) T.m_NoOrder T.b_ini (pv 0)) (pa_cons (pe_err T.e_TooMany T.ini (hr.mono (by first | decide | omega)) (by rfl) T.m_TooMany T.b_ini (pv 0)) (pa_cons (pe_err T.e_BadMember T.ini (hr.mono (by first | decide | omega)) (by rfl) T.m_BadMember T.b_ini (pv 0)) pa_nil))))))))
      (pss_cons (ps_set (i := 1) sc__law_made.nd rfl (Or.inl rfl) (pe_op op_cat (pv 1) (pe_lst (pa_cons (pe_err T.e_BadPlace T.ini (hr.mono (by first | decide | omega)) (by rfl) T.m_BadPlace T.b_ini (pv 0)) (pa_cons (pe_err T.e_BadField T.ini (hr.mono (by first | decide | omega)) (by rfl) T.m_BadField T.b_ini (pv 0)) (pa_cons (pe_err T.e_NoField T.ini (hr.mono (by first | decide | omega)) (by rfl) T.m_NoField T.b_ini (pv 0)) (pa_cons (pe_err T.e_BadDraft T.ini (hr.mono (by first | decide | omega)) (by rfl) T.m_BadDraft T.b_ini (pv 0)) (pa_cons (pe_err T.e_BadRoad T.ini (hr.mono (by first | decide | omega)) (by rfl) T.m_BadRoad T.b_ini (pv 0)) pa_nil))))))))
      (pss_cons (ps_set (i := 1) sc__law_made.nd rfl (Or.inl rfl) (pe_op op_cat (pv 1) (pe_lst (pa_cons (pe_err T.e_BadChanges T.ini (hr.mono (by first | decide | omega)) (by rfl) T.m_BadChanges T.b_ini (pv 0)) (pa_cons (pe_err T.e_BadOffers T.ini (hr.mono (by first | decide | omega)) (by rfl) T.m_BadOffers T.b_ini (pv 0)) (pa_cons (pe_err T.e_BadWish T.ini (hr.mono (by first | decide | omega)) (by rfl) T.m_BadWish T.b_ini (pv 0)) (pa_cons (pe_err T.e_BadEdition T.ini (hr.mono (by first | decide | omega)) (by rfl) T.m_BadEdition T.b_ini (pv 0)) (pa_cons (pe_err T.e_BadTruth T.ini (hr.mono (by first | decide | omega)) (by rfl) T.m_BadTruth T.b_ini (pv 0)) pa_nil))))))))
      (pss_cons (ps_set (i := 1) sc__law_made.nd rfl (Or.inl rfl) (pe_op op_cat (pv 1) (pe_lst (pa_cons (pe_err T.e_Broken T.ini (hr.mono (by first | decide | omega)) (by rfl) T.m_Broken T.b_ini (pv 0)) (pa_cons (pe_err T.e_NotKept T.ini (hr.mono (by first | decide | omega)) (by rfl) T.m_NotKept T.b_ini (pv 0)) (pa_cons (pe_err T.e_NoNumber T.ini (hr.mono (by first | decide | omega)) (by rfl) T.m_NoNumber T.b_ini (pv 0)) (pa_cons (pe_err T.e_Turned T.ini (hr.mono (by first | decide | omega)) (by rfl) T.m_Turned T.b_ini (pv 0)) (pa_cons (pe_err T.e_NothingToUndo T.ini (hr.mono (by first | decide | omega)) (by rfl) T.m_NothingToUndo T.b_ini (pv 0)) pa_nil))))))))
      (pss_cons (ps_set (i := 1) sc__law_made.nd rfl (Or.inl rfl) (pe_op op_cat (pv 1) (pe_lst (pa_cons (pe_err T.e_NothingToRedo T.ini (hr.mono (by first | decide | omega)) (by rfl) T.m_NothingToRedo T.b_ini (pv 0)) (pa_cons (pe_err T.e_NoTrial T.ini (hr.mono (by first | decide | omega)) (by rfl) T.m_NoTrial T.b_ini (pv 0)) (pa_cons (pe_err T.e_BadText T.ini (hr.mono (by first | decide | omega)) (by rfl) T.m_BadText T.b_ini (pv 0)) (pa_cons (pe_err T.e_BadJournal T.ini (hr.mono (by first | decide | omega)) (by rfl) T.m_BadJournal T.b_ini (pv 0)) (pa_cons (pe_err T.e_BadLine T.ini (hr.mono (by first | decide | omega)) (by rfl) T.m_BadLine T.b_ini (pv 0)) pa_nil))))))))
      (pss_one (ps_ret (pv 1)))))))))), ?_⟩
  dsimp only [tSeq, tAsg]
  refine rd_lst (v := v) (Cs := [T.C_NoKind, T.C_NoDocument, T.C_BadBook, T.C_Unnamed, T.C_Ring, T.C_BadForms]) (by rfl) (Nat.le_of_ble_eq_true rfl) fun H0 l0 as0 s0 n0 h0 m0 => ?_
  try dsimp only [gName, tSeq, tAsg]
  refine rd_cat (v := v) (C0 := [T.C_NoKind, T.C_NoDocument, T.C_BadBook, T.C_Unnamed, T.C_Ring, T.C_BadForms]) (Cs := [T.C_Clash, T.C_NoReading, T.C_BadReading, T.C_BadSide, T.C_TooLarge]) (by rfl) (by rfl) h0 m0 (Nat.le_of_ble_eq_true rfl) fun H1 l1 as1 t1 n1 h1 m1 => ?_
  have s1 := s0.trans t1
  try dsimp only [gName, tSeq, tAsg]
  refine rd_cat (v := v) (C0 := [T.C_NoKind, T.C_NoDocument, T.C_BadBook, T.C_Unnamed, T.C_Ring, T.C_BadForms, T.C_Clash, T.C_NoReading, T.C_BadReading, T.C_BadSide, T.C_TooLarge]) (Cs := [T.C_NotEither, T.C_BadOrder, T.C_NoOrder, T.C_TooMany, T.C_BadMember]) (by rfl) (by rfl) h1 m1 (Nat.le_of_ble_eq_true rfl) fun H2 l2 as2 t2 n2 h2 m2 => ?_
  have s2 := s1.trans t2
  try dsimp only [gName, tSeq, tAsg]
  refine rd_cat (v := v) (C0 := [T.C_NoKind, T.C_NoDocument, T.C_BadBook, T.C_Unnamed, T.C_Ring, T.C_BadForms, T.C_Clash, T.C_NoReading, T.C_BadReading, T.C_BadSide, T.C_TooLarge, T.C_NotEither, T.C_BadOrder, T.C_NoOrder, T.C_TooMany, T.C_BadMember]) (Cs := [T.C_BadPlace, T.C_BadField, T.C_NoField, T.C_BadDraft, T.C_BadRoad]) (by rfl) (by rfl) h2 m2 (Nat.le_of_ble_eq_true rfl) fun H3 l3 as3 t3 n3 h3 m3 => ?_
  have s3 := s2.trans t3
  try dsimp only [gName, tSeq, tAsg]
  refine rd_cat (v := v) (C0 := [T.C_NoKind, T.C_NoDocument, T.C_BadBook, T.C_Unnamed, T.C_Ring, T.C_BadForms, T.C_Clash, T.C_NoReading, T.C_BadReading, T.C_BadSide, T.C_TooLarge, T.C_NotEither, T.C_BadOrder, T.C_NoOrder, T.C_TooMany, T.C_BadMember, T.C_BadPlace, T.C_BadField, T.C_NoField, T.C_BadDraft, T.C_BadRoad]) (Cs := [T.C_BadChanges, T.C_BadOffers, T.C_BadWish, T.C_BadEdition, T.C_BadTruth]) (by rfl) (by rfl) h3 m3 (Nat.le_of_ble_eq_true rfl) fun H4 l4 as4 t4 n4 h4 m4 => ?_
  have s4 := s3.trans t4
  try dsimp only [gName, tSeq, tAsg]
  refine rd_cat (v := v) (C0 := [T.C_NoKind, T.C_NoDocument, T.C_BadBook, T.C_Unnamed, T.C_Ring, T.C_BadForms, T.C_Clash, T.C_NoReading, T.C_BadReading, T.C_BadSide, T.C_TooLarge, T.C_NotEither, T.C_BadOrder, T.C_NoOrder, T.C_TooMany, T.C_BadMember, T.C_BadPlace, T.C_BadField, T.C_NoField, T.C_BadDraft, T.C_BadRoad, T.C_BadChanges, T.C_BadOffers, T.C_BadWish, T.C_BadEdition, T.C_BadTruth]) (Cs := [T.C_Broken, T.C_NotKept, T.C_NoNumber, T.C_Turned, T.C_NothingToUndo]) (by rfl) (by rfl) h4 m4 (Nat.le_of_ble_eq_true rfl) fun H5 l5 as5 t5 n5 h5 m5 => ?_
  have s5 := s4.trans t5
  try dsimp only [gName, tSeq, tAsg]
  refine rd_cat (v := v) (C0 := [T.C_NoKind, T.C_NoDocument, T.C_BadBook, T.C_Unnamed, T.C_Ring, T.C_BadForms, T.C_Clash, T.C_NoReading, T.C_BadReading, T.C_BadSide, T.C_TooLarge, T.C_NotEither, T.C_BadOrder, T.C_NoOrder, T.C_TooMany, T.C_BadMember, T.C_BadPlace, T.C_BadField, T.C_NoField, T.C_BadDraft, T.C_BadRoad, T.C_BadChanges, T.C_BadOffers, T.C_BadWish, T.C_BadEdition, T.C_BadTruth, T.C_Broken, T.C_NotKept, T.C_NoNumber, T.C_Turned, T.C_NothingToUndo]) (Cs := [T.C_NothingToRedo, T.C_NoTrial, T.C_BadText, T.C_BadJournal, T.C_BadLine]) (by rfl) (by rfl) h5 m5 (Nat.le_of_ble_eq_true rfl) fun H6 l6 as6 t6 n6 h6 m6 => ?_
  have s6 := s5.trans t6
  exact ⟨_, rfl, k _ _ _ s6 (s5.free n6) h6 m6⟩

def spMarks (K : PySem.W.Frag) (Cs : List Addr) : Sp := fun vs H Q _ => ∃ (a C : Addr) (v : V) (i : Nat), vs = [.ref a] ∧ Err H a C v ∧ Cs[i]? = some C ∧ ExcC K C ∧
  ∀ (H' : Hp) (l : Addr), Same H H' → H l = none → H' l = some (.lst ((List.range 36).map fun j => V.bl (decide (j = i)))) → Q (.ref l) H'
/-- isinstance tells the classes apart -/
def Apart (K : PySem.W.Frag) (Cs : List Addr) : Prop := ∀ (i j : Nat) (C D : Addr), Cs[i]? = some C → Cs[j]? = some D → PySem.W.kitOne K (.ref C) (.ref D) = some (decide (j = i))
/-- isinstance(x, D1), .. -/
def tis (K : PySem.W.Frag) : List Addr → TA
  | [] => tNil
  | D :: Ds => tCons (tCB (rIsErr K) (tCons (tVar 0) (tCons (tC (.ref D)) tNil))) (tis K Ds)
def bls (i n m : Nat) : List V := (List.range' n m).map fun j => V.bl (decide (j = i))
theorem rd_is {σ : L2.St} {a C : Addr} {v : V} {i : Nat} (h0 : σ[0]? = some (some (.ref a))) (xc : ExcC K C) : ∀ (Ds : List Addr) (n : Nat) (H : Hp) (Q : List V → Hp → Prop), Err H a C v → (∀ j D, Ds[j]? = some D → PySem.W.kitOne K (.ref C) (.ref D) = some (decide (n + j = i))) →
    Q (bls i n Ds.length) H → tis K Ds σ H Q
  | [], n, H, Q, _, _, k => k
  | D :: Ds, n, H, Q, er, kt, k => by
    refine ⟨_, h0, a, C, v, .ref D, _, _, rfl, er, xc, .own _, kt 0 D rfl, ?_⟩
    refine rd_is h0 xc Ds (n + 1) H _ er (fun j E hj => ?_) k
    have := kt (j + 1) E hj
    rw [show n + 1 + j = n + (j + 1) by omega]
    exact this
theorem bls_len {i n m : Nat} : (bls i n m).length = m := by simp [bls]
theorem rd_is1 {σ : L2.St} {a C : Addr} {v : V} {i n : Nat} {Ds : List Addr} {H : Hp} {Q : VK} (h0 : σ[0]? = some (some (.ref a))) (xc : ExcC K C) (er : Err H a C v) (kt : ∀ j D, Ds[j]? = some D → PySem.W.kitOne K (.ref C) (.ref D) = some (decide (n + j = i))) (hz : Ds.length ≤ 1000)
    (k : ∀ H' l, Same H H' → H l = none → H' l = some (.lst (bls i n Ds.length)) → Q (.ref l) H') : tLst (tis K Ds) σ H Q := by
  refine rd_is h0 xc Ds n H _ er kt ⟨?_, fun p n => ?_⟩
  · rw [bls_len, sizeLine_eq]
    omega
  · exact k _ p (same_new n) n upd_same
theorem rd_is2 {σ : L2.St} {a C L : Addr} {v : V} {i m : Nat} {Ds : List Addr} {H : Hp} {Q : VK} (h0 : σ[0]? = some (some (.ref a))) (h1 : σ[1]? = some (some (.ref L))) (xc : ExcC K C) (er : Err H a C v) (hL : H L = some (.lst (bls i 0 m)))
    (kt : ∀ j D, Ds[j]? = some D → PySem.W.kitOne K (.ref C) (.ref D) = some (decide (m + j = i))) (hz : m + Ds.length ≤ 1000)
    (k : ∀ H' l, Same H H' → H l = none → H' l = some (.lst (bls i 0 (m + Ds.length))) → Q (.ref l) H') : tOp rCat (tVar 1) (tLst (tis K Ds)) σ H Q := by
  refine ⟨_, h1, rd_is1 h0 xc er kt (by omega) fun H' l s nl hl => ⟨L, l, _, _, rfl, rfl, s _ _ hL, hl, ?_, fun p n => ?_⟩⟩
  · rw [bls_len, bls_len, sizeLine_eq]
    omega
  · refine k _ p (s.trans (same_new n)) (s.free n) ?_
    rw [upd_same]
    congr 2
    unfold bls
    rw [← List.map_append]
    congr 1
    have e := List.range'_append_1 (s := 0) (m := m) (n := Ds.length)
    rw [Nat.zero_add] at e
    exact e
theorem ok_marks (T : Tx P K mg) (ap : Apart K (cls T)) : FnOk P w K mg base CX0 1 T.a__law_marks T.fd__law_marks ["_law_error"] (spMarks K (cls T)) := by
  refine T.F__law_marks.ok sc__law_marks (fun vs H Q E h => ?_) (fun cdv A outer s H vs Q E hr h => ?_)
  · obtain ⟨a, C, v, i, rfl, _⟩ := h
    rfl
  obtain ⟨a, C, v, i, rfl, er, hi, xc, k⟩ := h
  have kt : ∀ (n : Nat) (Ds : List Addr), (∀ j D, Ds[j]? = some D → (cls T)[n + j]? = some D) → ∀ j D, Ds[j]? = some D → PySem.W.kitOne K (.ref C) (.ref D) = some (decide (n + j = i)) := fun n Ds h j D hj => ap i _ C D hi (h j D hj)
  refine ⟨_, (pss_cons (ps_set (i := 1) sc__law_marks.nd rfl (Or.inl rfl) (pe_lst (pa_cons (pe_callB call_isErr (by rfl) T.n_isinstance PyProof.Rows.Boot.«isinstance» (pa_cons (pv 0) (pa_cons (pe_glob (v := .ref T.C_NoKind) (by rfl) T.m_NoKind rfl) pa_nil))) (pa_cons (pe_callB call_isErr (by rfl) T.n_isinstance PyProof.Rows.Boot.«isinstance» (pa_cons (pv 0) (pa_cons (pe_glob (v := .ref T.C_NoDocument) (by rfl) T.m_NoDocument rfl) pa_nil))) (pa_cons (pe_callB call_isErr (by rfl) T.n_isinstance PyProof.Rows.Boot.«isinstance» (pa_cons (pv 0) (pa_cons (pe_glob (v := .ref T.C_BadBook) (by rfl) T.m_BadBook rfl) pa_nil))) pa_nil)))))
      (pss_cons (ps_set (i := 1) sc__law_marks.nd rfl (Or.inl rfl) (pe_op op_cat (pv 1) (pe_lst (pa_cons (pe_callB call_isErr (by rfl) T.n_isinstance PyProof.Rows.Boot.«isinstance» (pa_cons (pv 0) (pa_cons (pe_glob (v := .ref T.C_Unnamed) (by rfl) T.m_Unnamed rfl) pa_nil))) (pa_cons (pe_callB call_isErr (by rfl) T.n_isinstance PyProof.Rows.Boot.«isinstance» (pa_cons (pv 0) (pa_cons (pe_glob (v := .ref T.C_Ring) (by rfl) T.m_Ring rfl) pa_nil))) (pa_cons (pe_callB call_isErr (by rfl) T.n_isinstance PyProof.Rows.Boot.«isinstance» (pa_cons (pv 0) (pa_cons (pe_glob (v := .ref T.C_BadForms) (by rfl) T.m_BadForms rfl) pa_nil))) pa_nil))))))
      (pss_cons (ps_set (i := 1) sc__law_marks.nd rfl (Or.inl rfl) (pe_op op_cat (pv 1) (pe_lst (pa_cons (pe_callB call_isErr (by rfl) T.n_isinstance PyProof.Rows.Boot.«isinstance» (pa_cons (pv 0) (pa_cons (pe_glob (v := .ref T.C_Clash) (by rfl) T.m_Clash rfl) pa_nil))) (pa_cons (pe_callB call_isErr (by rfl) T.n_isinstance PyProof.Rows.Boot.«isinstance» (pa_cons (pv 0) (pa_cons (pe_glob (v := .ref T.C_NoReading) (by rfl) T.m_NoReading rfl) pa_nil))) (pa_cons (pe_callB call_isErr (by rfl) T.n_isinstance PyProof.Rows.Boot.«isinstance» (pa_cons (pv 0) (pa_cons (pe_glob (v := .ref T.C_BadReading) (by rfl) T.m_BadReading rfl) pa_nil))) pa_nil))))))
      (pss_cons (ps_set (i := 1) sc__law_marks.nd rfl (Or.inl rfl) (pe_op op_cat (pv 1) (pe_lst (pa_cons (pe_callB call_isErr (by rfl) T.n_isinstance PyProof.Rows.Boot.«isinstance» (pa_cons (pv 0) (pa_cons (pe_glob (v := .ref T.C_BadSide) (by rfl) T.m_BadSide rfl) pa_nil))) (pa_cons (pe_callB call_isErr (by rfl) T.n_isinstance PyProof.Rows.Boot.«isinstance» (pa_cons (pv 0) (pa_cons (pe_glob (v := .ref T.C_TooLarge) (by rfl) T.m_TooLarge rfl) pa_nil))) (pa_cons (pe_callB call_isErr (by rfl) T.n_isinstance PyProof.Rows.Boot.«isinstance» (pa_cons (pv 0) (pa_cons (pe_glob (v := .ref T.C_NotEither) (by rfl) T.m_NotEither rfl) pa_nil))) pa_nil))))))
      (pss_cons (ps_set (i := 1) sc__law_marks.nd rfl (Or.inl rfl) (pe_op op_cat (pv 1) (pe_lst (pa_cons (pe_callB call_isErr (by rfl) T.n_isinstance PyProof.Rows.Boot.«isinstance» (pa_cons (pv 0) (pa_cons (pe_glob (v := .ref T.C_BadOrder) (by rfl) T.m_BadOrder rfl) pa_nil))) (pa_cons (pe_callB call_isErr (by rfl) T.n_isinstance PyProof.Rows.Boot.«isinstance» (pa_cons (pv 0) (pa_cons (pe_glob (v := .ref T.C_NoOrder) (by rfl) T.m_NoOrder rfl) pa_nil))) (pa_cons (pe_callB call_isErr (by rfl) T.n_isinstance PyProof.Rows.Boot.«isinstance» (pa_cons (pv 0) (pa_cons (pe_glob (v := .ref T.C_TooMany) (by rfl) T.m_TooMany rfl) pa_nil))) pa_nil))))))
      (pss_cons (ps_set (i := 1) sc__law_marks.nd rfl (Or.inl rfl) (pe_op op_cat (pv 1) (pe_lst (pa_cons (pe_callB call_isErr (by rfl) T.n_isinstance PyProof.Rows.Boot.«isinstance» (pa_cons (pv 0) (pa_cons (pe_glob (v := .ref T.C_BadMember) (by rfl) T.m_BadMember rfl) pa_nil))) (pa_cons (pe_callB call_isErr (by rfl) T.n_isinstance PyProof.Rows.Boot.«isinstance» (pa_cons (pv 0) (pa_cons (pe_glob (v := .ref T.C_BadPlace) (by rfl) T.m_BadPlace rfl) pa_nil))) (pa_cons (pe_callB call_isErr (by rfl) T.n_isinstance PyProof.Rows.Boot.«isinstance» (pa_cons (pv 0) (pa_cons (pe_glob (v := .ref T.C_BadField) (by rfl) T.m_BadField rfl) pa_nil))) pa_nil))))))
      (pss_cons (ps_set (i := 1) sc__law_marks.nd rfl (Or.inl rfl) (pe_op op_cat (pv 1) (pe_lst (pa_cons (pe_callB call_isErr (by rfl) T.n_isinstance PyProof.Rows.Boot.«isinstance» (pa_cons (pv 0) (pa_cons (pe_glob (v := .ref T.C_NoField) (by rfl) T.m_NoField rfl) pa_nil))) (pa_cons (pe_callB call_isErr (by rfl) T.n_isinstance PyProof.Rows.Boot.«isinstance» (pa_cons (pv 0) (pa_cons (pe_glob (v := .ref T.C_BadDraft) (by rfl) T.m_BadDraft rfl) pa_nil))) (pa_cons (pe_callB call_isErr (by rfl) T.n_isinstance PyProof.Rows.Boot.«isinstance» (pa_cons (pv 0) (pa_cons (pe_glob (v := .ref T.C_BadRoad) (by rfl) T.m_BadRoad rfl) pa_nil))) pa_nil))))))
      (pss_cons (ps_set (i := 1) sc__law_marks.nd rfl (Or.inl rfl) (pe_op op_cat (pv 1) (pe_lst (pa_cons (pe_callB call_isErr (by rfl) T.n_isinstance PyProof.Rows.Boot.«isinstance» (pa_cons (pv 0) (pa_cons (pe_glob (v := .ref T.C_BadChanges) (by rfl) T.m_BadChanges rfl) pa_nil))) (pa_cons (pe_callB call_isErr (by rfl) T.n_isinstance PyProof.Rows.Boot.«isinstance» (pa_cons (pv 0) (pa_cons (pe_glob (v := .ref T.C_BadOffers) (by rfl) T.m_BadOffers rfl) pa_nil))) (pa_cons (pe_callB call_isErr (by rfl) T.n_isinstance PyProof.Rows.Boot.«isinstance» (pa_cons (pv 0) (pa_cons (pe_glob (v := .ref T.C_BadWish) (by rfl) T.m_BadWish rfl) pa_nil))) pa_nil))))))
      (pss_cons (ps_set (i := 1) sc__law_marks.nd rfl (Or.inl rfl) (pe_op op_cat (pv 1) (pe_lst (pa_cons (pe_callB call_isErr (by rfl) T.n_isinstance PyProof.Rows.Boot.«isinstance» (pa_cons (pv 0) (pa_cons (pe_glob (v := .ref T.C_BadEdition) (by rfl) T.m_BadEdition rfl) pa_nil))) (pa_cons (pe_callB call_isErr (by rfl) T.n_isinstance PyProof.Rows.Boot.«isinstance» (pa_cons (pv 0) (pa_cons (pe_glob (v := .ref T.C_BadTruth) (by rfl) T.m_BadTruth rfl) pa_nil))) (pa_cons (pe_callB call_isErr (by rfl) T.n_isinstance PyProof.Rows.Boot.«isinstance» (pa_cons (pv 0) (pa_cons (pe_glob (v := .ref T.C_Broken) (by rfl) T.m_Broken rfl) pa_nil))) pa_nil))))))
      (pss_cons (ps_set (i := 1) sc__law_marks.nd rfl (Or.inl rfl) (pe_op op_cat (pv 1) (pe_lst (pa_cons (pe_callB call_isErr (by rfl) T.n_isinstance PyProof.Rows.Boot.«isinstance» (pa_cons (pv 0) (pa_cons (pe_glob (v := .ref T.C_NotKept) (by rfl) T.m_NotKept rfl) pa_nil))) (pa_cons (pe_callB call_isErr (by rfl) T.n_isinstance PyProof.Rows.Boot.«isinstance» (pa_cons (pv 0) (pa_cons (pe_glob (v := .ref T.C_NoNumber) (by rfl) T.m_NoNumber rfl) pa_nil))) (pa_cons (pe_callB call_isErr (by rfl) T.n_isinstance PyProof.Rows.Boot.«isinstance» (pa_cons (pv 0) (pa_cons (pe_glob (v := .ref T.C_Turned) (by rfl) T.m_Turned rfl) pa_nil))) pa_nil))))))
      (pss_cons (ps_set (i := 1) sc__law_marks.nd rfl (Or.inl rfl) (pe_op op_cat (pv 1) (pe_lst (pa_cons (pe_callB call_isErr (by rfl) T.n_isinstance PyProof.Rows.Boot.«isinstance» (pa_cons (pv 0) (pa_cons (pe_glob (v := .ref T.C_NothingToUndo) (by rfl) T.m_NothingToUndo rfl) pa_nil))) (pa_cons (pe_callB call_isErr (by rfl) T.n_isinstance PyProof.Rows.Boot.«isinstance» (pa_cons (pv 0) (pa_cons (pe_glob (v := .ref T.C_NothingToRedo) (by rfl) T.m_NothingToRedo rfl) pa_nil))) (pa_cons (pe_callB call_isErr (by rfl) T.n_isinstance PyProof.Rows.Boot.«isinstance» (pa_cons (pv 0) (pa_cons (pe_glob (v := .ref T.C_NoTrial) (by rfl) T.m_NoTrial rfl) pa_nil))) pa_nil))))))
      (pss_cons (ps_set (i := 1) sc__law_marks.nd rfl (Or.inl rfl) (pe_op op_cat (pv 1) (pe_lst (pa_cons (pe_callB call_isErr (by rfl) T.n_isinstance PyProof.Rows.Boot.«isinstance» (pa_cons (pv 0) (pa_cons (pe_glob (v := .ref T.C_BadText) (by rfl) T.m_BadText rfl) pa_nil))) (pa_cons (pe_callB call_isErr (by rfl) T.n_isinstance PyProof.Rows.Boot.«isinstance» (pa_cons (pv 0) (pa_cons (pe_glob (v := .ref T.C_BadJournal) (by rfl) T.m_BadJournal rfl) pa_nil))) (pa_cons (pe_callB call_isErr (by rfl) T.n_isinstance PyProof.Rows.Boot.«isinstance» (pa_cons (pv 0) (pa_cons (pe_glob (v := .ref T.C_BadLine) (by rfl) T.m_BadLine rfl) pa_nil))) pa_nil))))))
      (pss_one (ps_ret (pv 1))))))))))))))), ?_⟩
  dsimp only [tSeq, tAsg]
  refine rd_is1 (n := 0) (i := i) (Ds := [T.C_NoKind, T.C_NoDocument, T.C_BadBook]) (by rfl) xc er (kt 0 [T.C_NoKind, T.C_NoDocument, T.C_BadBook] fun j D hj => by match j, hj with | 0, hj => exact hj | 1, hj => exact hj | 2, hj => exact hj) (Nat.le_of_ble_eq_true rfl) fun H0 l0 s0 n0 h0 => ?_
  try dsimp only [gName, tSeq, tAsg]
  refine rd_is2 (m := 3) (i := i) (Ds := [T.C_Unnamed, T.C_Ring, T.C_BadForms]) (by rfl) (by rfl) xc (er.keep s0) h0 (kt 3 [T.C_Unnamed, T.C_Ring, T.C_BadForms] fun j D hj => by match j, hj with | 0, hj => exact hj | 1, hj => exact hj | 2, hj => exact hj) (Nat.le_of_ble_eq_true rfl) fun H1 l1 t1 n1 h1 => ?_
  have s1 := s0.trans t1
  try dsimp only [gName, tSeq, tAsg]
  refine rd_is2 (m := 6) (i := i) (Ds := [T.C_Clash, T.C_NoReading, T.C_BadReading]) (by rfl) (by rfl) xc (er.keep s1) h1 (kt 6 [T.C_Clash, T.C_NoReading, T.C_BadReading] fun j D hj => by match j, hj with | 0, hj => exact hj | 1, hj => exact hj | 2, hj => exact hj) (Nat.le_of_ble_eq_true rfl) fun H2 l2 t2 n2 h2 => ?_
  have s2 := s1.trans t2
  try dsimp only [gName, tSeq, tAsg]
  refine rd_is2 (m := 9) (i := i) (Ds := [T.C_BadSide, T.C_TooLarge, T.C_NotEither]) (by rfl) (by rfl) xc (er.keep s2) h2 (kt 9 [T.C_BadSide, T.C_TooLarge, T.C_NotEither] fun j D hj => by match j, hj with | 0, hj => exact hj | 1, hj => exact hj | 2, hj => exact hj) (Nat.le_of_ble_eq_true rfl) fun H3 l3 t3 n3 h3 => ?_
  have s3 := s2.trans t3
  try dsimp only [gName, tSeq, tAsg]
  refine rd_is2 (m := 12) (i := i) (Ds := [T.C_BadOrder, T.C_NoOrder, T.C_TooMany]) (by rfl) (by rfl) xc (er.keep s3) h3 (kt 12 [T.C_BadOrder, T.C_NoOrder, T.C_TooMany] fun j D hj => by match j, hj with | 0, hj => exact hj | 1, hj => exact hj | 2, hj => exact hj) (Nat.le_of_ble_eq_true rfl) fun H4 l4 t4 n4 h4 => ?_
  have s4 := s3.trans t4
  try dsimp only [gName, tSeq, tAsg]
  refine rd_is2 (m := 15) (i := i) (Ds := [T.C_BadMember, T.C_BadPlace, T.C_BadField]) (by rfl) (by rfl) xc (er.keep s4) h4 (kt 15 [T.C_BadMember, T.C_BadPlace, T.C_BadField] fun j D hj => by match j, hj with | 0, hj => exact hj | 1, hj => exact hj | 2, hj => exact hj) (Nat.le_of_ble_eq_true rfl) fun H5 l5 t5 n5 h5 => ?_
  have s5 := s4.trans t5
  try dsimp only [gName, tSeq, tAsg]
  refine rd_is2 (m := 18) (i := i) (Ds := [T.C_NoField, T.C_BadDraft, T.C_BadRoad]) (by rfl) (by rfl) xc (er.keep s5) h5 (kt 18 [T.C_NoField, T.C_BadDraft, T.C_BadRoad] fun j D hj => by match j, hj with | 0, hj => exact hj | 1, hj => exact hj | 2, hj => exact hj) (Nat.le_of_ble_eq_true rfl) fun H6 l6 t6 n6 h6 => ?_
  have s6 := s5.trans t6
  try dsimp only [gName, tSeq, tAsg]
  refine rd_is2 (m := 21) (i := i) (Ds := [T.C_BadChanges, T.C_BadOffers, T.C_BadWish]) (by rfl) (by rfl) xc (er.keep s6) h6 (kt 21 [T.C_BadChanges, T.C_BadOffers, T.C_BadWish] fun j D hj => by match j, hj with | 0, hj => exact hj | 1, hj => exact hj | 2, hj => exact hj) (Nat.le_of_ble_eq_true rfl) fun H7 l7 t7 n7 h7 => ?_
  have s7 := s6.trans t7
  try dsimp only [gName, tSeq, tAsg]
  refine rd_is2 (m := 24) (i := i) (Ds := [T.C_BadEdition, T.C_BadTruth, T.C_Broken]) (by rfl) (by rfl) xc (er.keep s7) h7 (kt 24 [T.C_BadEdition, T.C_BadTruth, T.C_Broken] fun j D hj => by match j, hj with | 0, hj => exact hj | 1, hj => exact hj | 2, hj => exact hj) (Nat.le_of_ble_eq_true rfl) fun H8 l8 t8 n8 h8 => ?_
  have s8 := s7.trans t8
  try dsimp only [gName, tSeq, tAsg]
  refine rd_is2 (m := 27) (i := i) (Ds := [T.C_NotKept, T.C_NoNumber, T.C_Turned]) (by rfl) (by rfl) xc (er.keep s8) h8 (kt 27 [T.C_NotKept, T.C_NoNumber, T.C_Turned] fun j D hj => by match j, hj with | 0, hj => exact hj | 1, hj => exact hj | 2, hj => exact hj) (Nat.le_of_ble_eq_true rfl) fun H9 l9 t9 n9 h9 => ?_
  have s9 := s8.trans t9
  try dsimp only [gName, tSeq, tAsg]
  refine rd_is2 (m := 30) (i := i) (Ds := [T.C_NothingToUndo, T.C_NothingToRedo, T.C_NoTrial]) (by rfl) (by rfl) xc (er.keep s9) h9 (kt 30 [T.C_NothingToUndo, T.C_NothingToRedo, T.C_NoTrial] fun j D hj => by match j, hj with | 0, hj => exact hj | 1, hj => exact hj | 2, hj => exact hj) (Nat.le_of_ble_eq_true rfl) fun H10 l10 t10 n10 h10 => ?_
  have s10 := s9.trans t10
  try dsimp only [gName, tSeq, tAsg]
  refine rd_is2 (m := 33) (i := i) (Ds := [T.C_BadText, T.C_BadJournal, T.C_BadLine]) (by rfl) (by rfl) xc (er.keep s10) h10 (kt 33 [T.C_BadText, T.C_BadJournal, T.C_BadLine] fun j D hj => by match j, hj with | 0, hj => exact hj | 1, hj => exact hj | 2, hj => exact hj) (Nat.le_of_ble_eq_true rfl) fun H11 l11 t11 n11 h11 => ?_
  have s11 := s10.trans t11
  refine ⟨_, rfl, k _ _ s11 (s10.free n11) ?_⟩
  rw [h11]
  unfold bls
  rw [List.range_eq_range']
  rfl
end
end K13
end
section
set_option Elab.async false
set_option linter.all false
set_option maxRecDepth 100000
set_option maxHeartbeats 8000000
namespace K13
open PySem PySem.Spec PyProof.Rows L2 Tg
local macro_rules | `(tactic| walk_at "c") => `(tactic| first | assumption | trivial | omega | (constructor <;> omega) | decide | exact len_ok (Nat.le_of_ble_eq_true rfl))
local macro_rules | `(tactic| walk_at "sq") => `(tactic| first | exact SqL.of (by assumption) | exact SqL.of upd_same | assumption | exact SqT.of (by assumption) | exact SqT.of upd_same | exact .inl (SqL.of (by assumption)) | exact .inr (SqT.of (by assumption)))
local macro_rules | `(tactic| walk_at "r1") => `(tactic| first
  | refine ⟨_, rfl, ?_⟩
  | refine ⟨_, _, rfl, rfl, ?_⟩
  | refine .inl ⟨_, rfl, ?_⟩
  | refine .inr ⟨_, rfl, ?_⟩
  | (apply Exists.intro; apply Exists.intro; apply Exists.intro; apply Exists.intro; refine And.intro rfl (And.intro rfl (And.intro ?sq ?_)); (case sq => walk_at "sq"); refine And.intro rfl ?_)
  | (apply Exists.intro; apply Exists.intro; apply Exists.intro; apply Exists.intro; refine And.intro rfl (And.intro rfl (And.intro ?hp ?_)); (case hp => first | assumption | exact upd_same); refine And.intro rfl ?_)
  | (refine And.intro ?c ?_; (case c => walk_at "c")))
local macro_rules | `(tactic| walk_at "r") => `(tactic| repeat walk_at "r1")
section
variable {P : Program} {w : World} {K : PySem.W.Frag} {mg : Str → Option Value} {base : Heap}
abbrev sp0 : Sp := fun _ _ _ _ => False
theorem fn0 {CX : CXT} {f : Addr} {fd : FuncData} {ps : List Str} : FnOk P w K mg base CX 0 f fd ps sp0 := ⟨fun vs H Q E h => h.elim, fun A outer s H args us vs Q E hr e0 hb r h => h.elim⟩

def spIsT : Sp := fun vs H Q _ => ∃ (a : Addr) (xs : List V), vs = [.ref a] ∧ H a = some (.tup xs) ∧ ∀ H', Same H H' → Q (.bl false) H'
theorem ok_isT (T : Tx P K mg) : FnOk P w K mg base CX0 1 T.a_is_document T.fd_is_document ["value"] spIsT := by
  have G_is_document : FnOk P w K mg base CX0 0 T.a_is_document T.fd_is_document ["value"] sp0 := fn0
  have G_is_name : FnOk P w K mg base CX0 0 T.a_is_name T.fd_is_name ["value"] sp0 := fn0
  refine T.F_is_document.ok sc_is_document (fun vs H Q E h => ?_) (fun cdv A outer s H vs Q E hr h => ?_)
  · obtain ⟨a, xs, rfl, _⟩ := h
    rfl
  obtain ⟨a, xs, rfl, ha, k⟩ := h
  refine ⟨_, (pss_cons (ps_if (pt_val (pe_callB call_isi (by rfl) T.n_isinstance PyProof.Rows.Boot.«isinstance» (pa_cons (pv 0) (pa_cons (pe_bltn (v := .ty "list") (by rfl) T.n_list PyProof.Rows.Boot.«list» rfl) pa_nil)))) (pss_one (ps_ret (pe_callB (cr_all rfl) (by rfl) T.n_all PyProof.Rows.Boot.«all» (pa_cons (pe_lc (own := [("part", 1)]) (g := gName 1) (tt := tYes) (by rfl) sc_is_document.nd (pi_list (pv 0)) (blkOk_by (own := [("part", 1)]) (N := ["value", "part", "field"]) (sc := defScope s_is_document) (by decide +kernel)) (fun _ _ _ _ _ => (pg_name (i := 1) sc_is_document.nd rfl (Or.inl rfl))) (fun _ _ _ _ _ => pts_nil) (fun _ _ _ _ _ => (pe_call G_is_document (hr.mono (by first | decide | omega)) (by rfl) T.m_is_document T.F_is_document.kp T.b_is_document .nil pass0 (pa_cons (pv 1) pa_nil)))) pa_nil)))) pss_nil)
      (pss_cons (ps_if (pt_val (pe_callB call_isi (by rfl) T.n_isinstance PyProof.Rows.Boot.«isinstance» (pa_cons (pv 0) (pa_cons (pe_bltn (v := .ty "dict") (by rfl) T.n_dict PyProof.Rows.Boot.«dict» rfl) pa_nil)))) (pss_one (ps_ret (pe_callB (cr_all rfl) (by rfl) T.n_all PyProof.Rows.Boot.«all» (pa_cons (pe_lc (own := [("field", 2), ("part", 1)]) (g := gTup K 2 (gCons (gName 2) (gCons (gName 1) (gNil)))) (tt := tYes) (by rfl) sc_is_document.nd (pi_items (pv 0)) (blkOk_by (own := [("field", 2), ("part", 1)]) (N := ["value", "part", "field"]) (sc := defScope s_is_document) (by decide +kernel)) (fun _ _ _ _ _ => (pg_tup rfl (pgs_cons (pg_name (i := 2) sc_is_document.nd rfl (Or.inl rfl)) (pgs_cons (pg_name (i := 1) sc_is_document.nd rfl (Or.inl rfl)) pgs_nil)))) (fun _ _ _ _ _ => pts_nil) (fun _ _ _ _ _ => (pe_and (pe_call G_is_name (hr.mono (by first | decide | omega)) (by rfl) T.m_is_name T.F_is_name.kp T.b_is_name .nil pass0 (pa_cons (pv 2) pa_nil)) (pe_one (pe_call G_is_document (hr.mono (by first | decide | omega)) (by rfl) T.m_is_document T.F_is_document.kp T.b_is_document .nil pass0 (pa_cons (pv 1) pa_nil)))))) pa_nil)))) pss_nil)
      (pss_one (ps_ret (pe_or (pe_cmpR op_isN (pv 0) pe_non (nomark _)) (pe_one (pe_callB call_isiT (by rfl) T.n_isinstance PyProof.Rows.Boot.«isinstance» (pa_cons (pv 0) (pa_cons (pe_tup (pa_cons (pe_bltn (v := .ty "bool") (by rfl) T.n_bool PyProof.Rows.Boot.«bool» rfl) (pa_cons (pe_bltn (v := .ty "int") (by rfl) T.n_int PyProof.Rows.Boot.«int» rfl) (pa_cons (pe_bltn (v := .ty "str") (by rfl) T.n_str PyProof.Rows.Boot.«str» rfl) pa_nil)))) pa_nil))))))))), ?_⟩
  refine ⟨_, rfl, _, _, .type "tuple", _, false, rfl, .ty "list", .base (.tup ha), kit_ty (by decide +kernel), _, rfl, iteF ?_⟩
  refine ⟨_, rfl, _, _, .type "tuple", _, false, rfl, .ty "dict", .base (.tup ha), kit_ty (by decide +kernel), _, rfl, iteF ?_⟩
  refine ⟨_, rfl, rfl, _, rfl, ite2 (fun hb => absurd (of_decide_eq_true hb) (fun z => nomatch z)) fun _ => ?_⟩
  refine ⟨_, rfl, by show 3 ≤ sizeLine; decide, fun tp nt => ?_⟩
  refine ⟨_, tp, _, .type "tuple", [.type "bool", .type "int", .type "str"], false, rfl, upd_same, .cons (.ty _) (.cons (.ty _) (.cons (.ty _) .nil)), .base (.tup (same_new nt _ _ ha)), ?_, k _ (same_new nt)⟩
  exact kitAny_cons (b := false) (kit_ty (by decide +kernel)) (fun _ => kitAny_cons (b := false) (kit_ty (by decide +kernel)) (fun _ => kitAny_cons (b := false) (kit_ty (by decide +kernel)) (fun _ => kitAny_nil) (fun z => nomatch z)) (fun z => nomatch z)) (fun z => nomatch z)

def spChk (C : Addr) : Sp := fun vs H Q E => ∃ (a : Addr) (xs : List V), vs = [.ref a] ∧ H a = some (.tup xs) ∧ ∀ H' d, Same H H' → H' d = none → E (.ref C) (some d) (upd H' d (.xd [("value", .ref a)]))
theorem ok_chk (T : Tx P K mg) : FnOk P w K mg base (L2.CX P w) 3 T.a_check_document T.fd_check_document ["value"] (spChk T.C_NoDocument) := by
  have G_is_document := ok_isT (w := w) (base := base) T
  refine T.F_check_document.okX sc_check_document (fun vs H Q E h => ?_) (fun cdv A outer s H vs Q E hr h => ?_)
  · obtain ⟨a, xs, rfl, _⟩ := h
    rfl
  obtain ⟨a, xs, rfl, ha, k⟩ := h
  refine ⟨_, (pss_one (ps_if (pt_not (pt_val (pe_call G_is_document (hr.mono (by first | decide | omega)) (by rfl) T.m_is_document T.F_is_document.kp T.b_is_document .nil pass0 (pa_cons (pv 0) pa_nil)))) (pss_one (ps_raiseE rfl (takes_of rfl rfl rfl rfl) T.e_NoDocument T.ini (hr.mono (by first | decide | omega)) (by rfl) T.m_NoDocument T.b_ini (pv 0))) pss_nil)), ?_⟩
  refine ⟨_, rfl, a, xs, rfl, ha, fun H' s' => ⟨_, rfl, iteT ?_⟩⟩
  exact ⟨_, rfl, fun d nd => k H' d s' nd⟩
theorem ok_size (T : Tx P K mg) : FnOk P w K mg base (L2.CX P w) 4 T.a_size T.fd_size ["document"] (spChk T.C_NoDocument) := by
  have G_check_document := ok_chk (w := w) (base := base) T
  have G_parts_in : FnOk P w K mg base CX0 0 T.a_parts_in T.fd_parts_in ["document"] sp0 := fn0
  refine T.F_size.okX sc_size (fun vs H Q E h => ?_) (fun cdv A outer s H vs Q E hr h => ?_)
  · obtain ⟨a, xs, rfl, _⟩ := h
    rfl
  obtain ⟨a, xs, rfl, ha, k⟩ := h
  refine ⟨_, (pss_cons (ps_expr (pe_call G_check_document (hr.mono (by first | decide | omega)) (by rfl) T.m_check_document T.F_check_document.kp T.b_check_document .nil (passes_call (takes_of rfl rfl rfl rfl) fun _ _ _ _ h => h) (pa_cons (pv 0) pa_nil)))
      (pss_one (ps_ret (pe_call G_parts_in (hr.mono (by first | decide | omega)) (by rfl) T.m_parts_in T.F_parts_in.kp T.b_parts_in .nil pass0 (pa_cons (pv 0) pa_nil))))), ?_⟩
  exact ⟨_, rfl, a, xs, rfl, ha, k⟩
end
end K13
end
section
set_option Elab.async false
set_option linter.all false

set_option maxRecDepth 100000
set_option maxHeartbeats 8000000
namespace K13
open PySem PySem.Spec PyProof.Rows L2 Tg
local macro_rules | `(tactic| walk_at "c") => `(tactic| first | assumption | trivial | omega | (constructor <;> omega) | decide | exact len_ok (Nat.le_of_ble_eq_true rfl))
local macro_rules | `(tactic| walk_at "sq") => `(tactic| first | exact SqL.of (by assumption) | exact SqL.of upd_same | assumption | exact SqT.of (by assumption) | exact SqT.of upd_same | exact .inl (SqL.of (by assumption)) | exact .inr (SqT.of (by assumption)))
local macro_rules | `(tactic| walk_at "r1") => `(tactic| first
  | refine ⟨_, rfl, ?_⟩
  | refine ⟨_, _, rfl, rfl, ?_⟩
  | refine .inl ⟨_, rfl, ?_⟩
  | refine .inr ⟨_, rfl, ?_⟩
  | (apply Exists.intro; apply Exists.intro; apply Exists.intro; apply Exists.intro; refine And.intro rfl (And.intro rfl (And.intro ?sq ?_)); (case sq => walk_at "sq"); refine And.intro rfl ?_)
  | (apply Exists.intro; apply Exists.intro; apply Exists.intro; apply Exists.intro; refine And.intro rfl (And.intro rfl (And.intro ?hp ?_)); (case hp => first | assumption | exact upd_same); refine And.intro rfl ?_)
  | (refine And.intro ?c ?_; (case c => walk_at "c")))
local macro_rules | `(tactic| walk_at "r") => `(tactic| repeat walk_at "r1")
theorem xfC {K : PySem.W.Frag} {fI D C : Addr} (e : ErrC K fI D C) : XfC K C := ⟨e.xc.hg, e.xc.hk, e.xc.hs, e.xc.hd⟩
structure Fx {P : Program} {K : PySem.W.Frag} {mg : Str → Option Value} (T : Tx P K mg) : Prop where
  ap : Apart K (cls T)
  up : ∀ C, C ∈ cls T → PySem.W.kitOne K (.ref C) (.ref T.C_TaglessError) = some true ∧ PySem.W.kitOne K (.ref C) (.type "ValueError") = some true
  er : ∀ C, C ∈ cls T → ErrC K T.fI T.D C
  xm : PySem.W.exmOne K (.ref T.C_NoDocument) (.ref T.C_NoDocument) = some true
def spRight : Sp := fun vs H Q _ => ∃ (p : Addr) (c : Int), vs = [.ref p] ∧ PotAt H p c ∧ c + 8 < 1000000 ∧ ∀ H', But p H H' → PotAt H' p (c + 8) → Q (.bl true) H'
theorem made_at {H : Hp} {v : V} : ∀ {as Cs : List Addr} {i : Nat} {a : Addr}, Made H v as Cs → as[i]? = some a → ∃ C, Cs[i]? = some C ∧ Err H a C v
  | _, _, 0, _, .cons e _, h => by
    cases h
    exact ⟨_, rfl, e⟩
  | _, _, i + 1, a, .cons _ m, h => made_at (i := i) m h
theorem dp_bools {K : PySem.W.Frag} {H : Hp} : ∀ bs : List Bool, DpAll K H (bs.map V.bl) (bs.map PyData.bool)
  | [] => .nil
  | b :: bs => .cons (.bl b) (dp_bools bs)
theorem lay_bools : ∀ bs : List Bool, PyData.canLayAll0 (bs.map PyData.bool) = true
  | [] => rfl
  | b :: bs => by
    show (PyData.canLay0 (.bool b) && PyData.canLayAll0 (bs.map PyData.bool)) = true
    rw [lay_bools bs]
    rfl
theorem dep_bools : ∀ bs : List Bool, PyData.depthAll (bs.map PyData.bool) ≤ 1
  | [] => by simp [PyData.depthAll]
  | b :: bs => by
    have := dep_bools bs
    simp only [List.map_cons, PyData.depthAll, PyData.depth]
    omega
theorem sh_bools (bs : List Bool) : SeqAt.shaped (.list (bs.map PyData.bool)) = true := by
  have h1 : PyData.canLay0 (.list (bs.map PyData.bool)) = true := lay_bools bs
  have h2 := dep_bools bs
  unfold SeqAt.shaped
  rw [h1, Bool.true_and, decide_eq_true_eq]
  simp only [PyData.depth]
  omega
theorem eqv_bools (bs : List Bool) : PyData.eqv (.list (bs.map PyData.bool)) (.list (bs.map PyData.bool)) = true := PySem.SeqAt.eqv_refl _ (lay_bools bs)
theorem iF {p q : Prop} (h : q) : if (false = true) then p else q := h
theorem ints_eq {j i : Nat} : decide (V.int (0 + (j : Int)) = V.int (i : Int)) = decide (j = i) := by
  by_cases h : j = i
  · subst h
    simp
  · have : ¬ (V.int (0 + (j : Int)) = V.int (i : Int)) := fun e => h (by
      injection e with e
      omega)
    rw [decide_eq_false h, decide_eq_false this]
section
variable {P : Program} {w : World} {K : PySem.W.Frag} {mg : Str → Option Value} {base : Heap}
theorem ok_right (T : Tx P K mg) (X : Fx T) : FnG P w K mg base CX0 7 T.a__law_right T.fd__law_right ["_law_pot"] spRight := by
  have G__law_thing := ok_thing (w := w) (base := base) T 4
  have G__law_made := ok_made (w := w) (base := base) T
  have G__law_marks := ok_marks (w := w) (base := base) T X.ap
  have G_size := ok_size (w := w) (base := base) T
  refine funG T.F__law_right sc__law_right (fun vs H Q E h => ?_) (fun cdv A outer s H vs Q E hgd hr h => ?_)
  · obtain ⟨p, c, rfl, _⟩ := h
    rfl
  obtain ⟨p, c, rfl, hp, hc, k⟩ := h
  obtain ⟨U, hU, hU2⟩ := room_units hr
  refine ⟨_, (pss_cons (ps_set (i := 1) sc__law_right.nd rfl (Or.inl rfl) (pe_call G__law_thing (hr.mono (by first | decide | omega)) (by rfl) T.m__law_thing T.F__law_thing.kp T.b__law_thing .nil pass0 (pa_cons (pv 0) (pa_cons pe_int pa_nil))))
      (pss_cons (ps_for PassesOwn.never rfl (pi_enum (by rfl) T.n_enumerate (pa_cons (pe_call G__law_made (hr.mono (by first | decide | omega)) (by rfl) T.m__law_made T.F__law_made.kp T.b__law_made .nil pass0 (pa_cons (pv 1) pa_nil)) pa_nil)) (pg_tup rfl (pgs_cons (pg_name (i := 2) sc__law_right.nd rfl (Or.inr rfl)) (pgs_cons (pg_name (i := 3) sc__law_right.nd rfl (Or.inl rfl)) pgs_nil))) (pss_cons (ps_set (i := 4) sc__law_right.nd rfl (Or.inl rfl) (pe_call G__law_marks (hr.mono (by first | decide | omega)) (by rfl) T.m__law_marks T.F__law_marks.kp T.b__law_marks .nil pass0 (pa_cons (pv 3) pa_nil)))
      (pss_cons (ps_if (PW.pt (pw_or (pt_cmpR op_ne (pe_callB (call_reprN hgd hU) (by rfl) T.n_repr PyProof.Rows.Boot.«repr» (pa_cons (pe_value (pv 3)) pa_nil)) (pe_callB (call_reprN hgd hU) (by rfl) T.n_repr PyProof.Rows.Boot.«repr» (pa_cons (pv 1) pa_nil)) (nomark _)) (pw_or1 (pt_cmpR (op_neD hr.units) (pv 4) (pe_lc (own := [("_law_at", 6)]) (g := gName 6) (tt := tYes) (by rfl) sc__law_right.nd (pi_range1 (by rfl) T.n_range (pa_cons (pe_callB call_len (by rfl) T.n_len PyProof.Rows.Boot.«len» (pa_cons (pv 4) pa_nil)) pa_nil)) (blkOk_by (own := [("_law_at", 6)]) (N := ["_law_pot", "_law_thing_here", "_law_number", "_law_one", "_law_marks_here", "_law_error", "_law_at"]) (sc := defScope s__law_right) (by decide +kernel)) (fun _ _ _ _ _ => (pg_name (i := 6) sc__law_right.nd rfl (Or.inl rfl))) (fun _ _ _ _ _ => pts_nil) (fun _ _ _ _ _ => (pe_cmpR op_eq (pv 6) (pv 2) (nomark _)))) (nomark _))))) (pss_one (ps_ret pe_bl)) pss_nil)
      (pss_one (ps_if (PW.pt (pw_or (pt_not (pt_val (pe_callB call_isErr (by rfl) T.n_isinstance PyProof.Rows.Boot.«isinstance» (pa_cons (pv 3) (pa_cons (pe_glob (v := .ref T.C_TaglessError) (by rfl) T.m_TaglessError rfl) pa_nil))))) (pw_or1 (pt_not (pt_val (pe_callB call_isErr (by rfl) T.n_isinstance PyProof.Rows.Boot.«isinstance» (pa_cons (pv 3) (pa_cons (pe_bltn (v := .ty "ValueError") (by rfl) T.n_ValueError PyProof.Rows.Boot.«ValueError» rfl) pa_nil)))))))) (pss_one (ps_ret pe_bl)) pss_nil)))))
      (pss_cons (ps_try_as (i := 5) rfl rfl sc__law_right.nd rfl rfl ⟨rfl, by decide, .inl T.m_NoDocument⟩ takes0 (fun W pn xe tk _ => (pss_cons (ps_expr (pe_callS G_size (hr.mono (by first | decide | omega)) (by rfl) T.m_size T.F_size.kp T.b_size (fun σ => passAt tk σ) (pa_cons (pe_tup (pa_cons (pv 1) pa_nil)) pa_nil)))
      (pss_one (ps_ret pe_bl)))) (fun a oe cls d pn hz hf => (pss_one (ps_if (pt_cmpR op_ne (pe_callB (call_reprN hgd hU) (by rfl) T.n_repr PyProof.Rows.Boot.«repr» (pa_cons (pe_xf (xfC T.e_NoDocument) T.e_NoDocument.no hz hf (pv 5)) pa_nil)) (pe_callB (call_reprN hgd hU) (by rfl) T.n_repr PyProof.Rows.Boot.«repr» (pa_cons (pe_tup (pa_cons (pv 1) pa_nil)) pa_nil)) (nomark _)) (pss_one (ps_ret pe_bl)) pss_nil))))
      (pss_one (ps_ret pe_bl))))), ?_⟩
  refine ⟨_, rfl, p, c, rfl, hp, by show c + 2 * ((3:Nat):Int) + 2 < 1000000; omega, fun H1 v d b1 hp1 rd sm => ?_⟩
  refine ⟨_, rfl, v, rfl, fun H2 l as s2 nl hl m => ?_⟩
  have hlen : as.length = 36 := made_len m
  have hsz : d.shown.length ≤ sizeLine := by
    have : d.shown.length ≤ 450 := sm.ln
    rw [sizeLine_eq]
    omega
  have hdp : U + d.depth + 2 < cLine := by
    have : d.depth ≤ 5 := sm.dp
    omega
  refine ⟨l, _, rfl, SqL.of hl, for_it (walk_enum (xs := as.map V.ref)) (fun i σ H3 => ∃ x2 x3 x4, σ = [some (.ref p), some v, x2, x3, x4, none, none] ∧ Same H2 H3) ⟨none, none, none, rfl, Same.refl _⟩ (fun i σ H3 _ ⟨_, _, _, _, s3⟩ => SqL.of (s3 _ _ hl)) ?_ ?_⟩
  · rintro i x σ H3 H4 hi ⟨x2, x3, x4, rfl, s3⟩ ⟨t, y, z, rfl, nt, rfl, ey, ez⟩
    refine ⟨t, _, rfl, SqT.of upd_same, rfl, _, _, rfl, _, _, rfl, rfl, ?_⟩
    cases ey
    obtain ⟨a, ea, rfl⟩ : ∃ a, as[i]? = some a ∧ z = .ref a := by
      have e2 : (as.map V.ref)[i]? = some z := ez
      rw [List.getElem?_map] at e2
      cases ha : as[i]? with
      | none => rw [ha] at e2; exact nomatch e2
      | some a => rw [ha] at e2; exact ⟨a, rfl, (Option.some.inj e2).symm⟩
    have s4 : Same H2 (upd H3 t (.tup [.int i, .ref a])) := s3.trans (same_new nt)
    generalize upd H3 t (.tup [.int i, .ref a]) = H4 at s4 ⊢
    obtain ⟨C, hC, er⟩ := made_at (made_keep m s4) ea
    have EC := X.er C (List.mem_of_getElem? hC)
    refine ⟨_, rfl, a, C, v, i, rfl, er, hC, EC.xc, fun H5 lm s5 nlm hlm => ?_⟩
    have er5 := er.keep s5
    have rd5 : Rp H5 d v := rd.same (s2.trans (s4.trans s5))
    refine ⟨_, rfl, a, C, v, rfl, er5, EC.xc, EC.no, ?_⟩
    refine ⟨d, v, rfl, rd5, sm.sh, hsz, hdp, ?_⟩
    refine ⟨_, rfl, d, v, rfl, rd5, sm.sh, hsz, hdp, ?_⟩
    refine ⟨rfl, false, by simp, ?_⟩
    refine iF ?_
    refine ⟨_, rfl, _, rfl, _, 36, rfl, .inl ⟨_, SqL.of hlm, by simp⟩, (36 : Int), rfl, by decide, by decide, fun D nD => lc_it walk_range (fun j H6 => Same H5 H6 ∧ H6 D = some (.lst ((List.range j).map fun j => V.bl (decide (j = i))))) ⟨same_new nD, upd_same⟩ (fun _ _ _ _ => trivial) ?_ ?_⟩
    · rintro j x H6 H7 hj ⟨s6, hD⟩ ⟨rfl, rfl⟩
      refine ⟨rfl, _, rfl, _, rfl, rfl, _, hD, ?_, ?_⟩
      · rw [List.length_map, List.length_range, sizeLine_eq]
        have : j < 36 := hj
        omega
      · refine ⟨?_, ?_⟩
        · intro b o e
          rw [upd_ne (ne_of_none e nD)]
          exact s6 _ _ e
        · rw [upd_same, List.range_succ, List.map_append]
          simp only [List.map_cons, List.map_nil]
          rw [ints_eq]
    · rintro H6 ⟨s6, hD⟩
      have eL : ((List.range 36).map fun j => V.bl (decide (j = i))) = ((List.range 36).map fun j => decide (j = i)).map V.bl := by
        rw [List.map_map]
        rfl
      rw [eL] at hlm
      have hD2 : H6 D = some (.lst (((List.range 36).map fun j => decide (j = i)).map V.bl)) := by
        rw [← eL]
        exact hD
      refine ⟨_, _, .lst (SqL.of (s6 _ _ hlm)) (dp_bools _), .lst (SqL.of hD2) (dp_bools _), sh_bools _, sh_bools _, false, by rw [eqv_bools]; rfl, ?_⟩
      refine iF ?_
      have er6 := er5.keep s6
      obtain ⟨u1, u2⟩ := X.up C (List.mem_of_getElem? hC)
      refine ⟨_, rfl, a, C, v, _, _, true, rfl, er6, EC.xc, .own _, u1, _, rfl, ?_⟩
      refine iF ?_
      refine ⟨_, rfl, a, C, v, _, _, true, rfl, er6, EC.xc, .ty _, u2, _, rfl, ?_⟩
      refine iF ?_
      exact ⟨_, _, _, rfl, s4.trans (s5.trans s6)⟩
  · rintro σ H3 ⟨x2, x3, x4, rfl, s3⟩
    refine ⟨_, rfl, len_ok (by show 1 ≤ 1000; decide), fun tp ntp => ⟨tp, [v], rfl, upd_same, fun H4 dd s4 nd => ⟨true, X.xm, fun _ a na => ?_, fun z => nomatch z⟩⟩⟩
    have sm4 : Sm 4 (.tuple [d]) := sm_t1 sm
    have hsz4 : (PyData.tuple [d]).shown.length ≤ sizeLine := by
      have : (PyData.tuple [d]).shown.length ≤ 930 := sm4.ln
      rw [sizeLine_eq]
      omega
    have hdp4 : U + (PyData.tuple [d]).depth + 2 < cLine := by
      have : (PyData.tuple [d]).depth ≤ 6 := sm4.dp
      omega
    have sa : Same H1 H3 := s2.trans s3
    obtain ⟨H5, e5, s5, r5⟩ := g_tup ntp (RpL.cons (rd.same sa) RpL.nil)
    rw [e5] at s4
    have s6 : Same H4 (upd H4 dd (.xd [("value", .ref tp)])) := same_new nd
    refine ⟨_, rfl, rfl, rfl, dd, _, .ref tp, rfl, upd_same, rfl, ?_⟩
    refine ⟨.tuple [d], .ref tp, rfl, r5.same (s4.trans s6), sm4.sh, hsz4, hdp4, ?_⟩
    refine ⟨_, rfl, len_ok (by show 1 ≤ 1000; decide), fun tq ntq => ?_⟩
    obtain ⟨H7, e7, s7, r7⟩ := g_tup ntq (RpL.cons (rd.same (sa.trans (s5.trans (s4.trans s6)))) RpL.nil)
    rw [e7]
    refine ⟨.tuple [d], .ref tq, rfl, r7, sm4.sh, hsz4, hdp4, ?_⟩
    refine ⟨rfl, false, by simp, ?_⟩
    refine iF ?_
    have S : Same H1 H7 := sa.trans (s5.trans (s4.trans (s6.trans s7)))
    exact k _ (fun b o n e => S _ _ (b1 _ _ n e)) ((hp1.same S).up (by show c + 2 * ((3:Nat):Int) + 2 ≤ c + 8; omega))
end
end K13
end
section
set_option Elab.async false
set_option linter.all false

set_option maxRecDepth 100000
set_option maxHeartbeats 8000000
namespace K13
open PySem PySem.Spec PyProof.Rows L2 Tg
local macro_rules | `(tactic| walk_at "c") => `(tactic| first | assumption | trivial | omega | (constructor <;> omega) | decide | exact len_ok (Nat.le_of_ble_eq_true rfl))
local macro_rules | `(tactic| walk_at "sq") => `(tactic| first | exact SqL.of (by assumption) | exact SqL.of upd_same | assumption | exact SqT.of (by assumption) | exact SqT.of upd_same | exact .inl (SqL.of (by assumption)) | exact .inr (SqT.of (by assumption)))
local macro_rules | `(tactic| walk_at "r1") => `(tactic| first
  | refine ⟨_, rfl, ?_⟩
  | refine ⟨_, _, rfl, rfl, ?_⟩
  | refine .inl ⟨_, rfl, ?_⟩
  | refine .inr ⟨_, rfl, ?_⟩
  | (apply Exists.intro; apply Exists.intro; apply Exists.intro; apply Exists.intro; refine And.intro rfl (And.intro rfl (And.intro ?sq ?_)); (case sq => walk_at "sq"); refine And.intro rfl ?_)
  | (apply Exists.intro; apply Exists.intro; apply Exists.intro; apply Exists.intro; refine And.intro rfl (And.intro rfl (And.intro ?hp ?_)); (case hp => first | assumption | exact upd_same); refine And.intro rfl ?_)
  | (refine And.intro ?c ?_; (case c => walk_at "c")))
local macro_rules | `(tactic| walk_at "r") => `(tactic| repeat walk_at "r1")
def spLaw (K : PySem.W.Frag) : Sp := fun vs H Q _ => ∃ (a : Addr) (ns : List Int), vs = [.ref a] ∧ SqL K H a (ns.map V.int) ∧ ns.length ≤ 63 ∧ ∀ H', Q (.bl true) H'
theorem all_rep : ∀ n : Nat, (List.replicate n true).all id = true
  | 0 => rfl
  | n + 1 => by
    show (id true && (List.replicate n true).all id) = true
    rw [all_rep n]
    rfl
def cnt (m : Nat) : Int := if (if (m : Int) < 3 then (m : Int) else 3) > 1 then (if (m : Int) < 3 then (m : Int) else 3) else 1
theorem cnt_ok (m : Nat) : 1 ≤ cnt m ∧ cnt m ≤ 3 := by
  unfold cnt
  by_cases h : (m : Int) < 3
  · rw [if_pos h]
    by_cases h2 : (m : Int) > 1
    · rw [if_pos h2]
      omega
    · rw [if_neg h2]
      omega
  · rw [if_neg h]
    decide
theorem cnt_lo (m : Nat) : -(2 ^ 62) ≤ cnt m := by
  have := cnt_ok m
  omega
theorem cnt_hi (m : Nat) : cnt m < 2 ^ 62 := by
  have := cnt_ok m
  omega
theorem pot_upd {H : Hp} {p D : Addr} {c : Int} {o : HO} (h : PotAt H p c) (n : p ≠ D) : PotAt (upd H D o) p c := by
  obtain ⟨x, y, z, e, r⟩ := h.ex
  exact ⟨x, y, z, by rw [upd_ne n]; exact e, r⟩
theorem pot_ne {H : Hp} {p D : Addr} {c : Int} (h : PotAt H p c) (n : H D = none) : p ≠ D := by
  obtain ⟨x, y, z, e, _⟩ := h.ex
  exact ne_of_none e n
theorem sq_same {K : PySem.W.Frag} {l : Addr} {H H' : Hp} {xs : List V} (b : Same H H') (h : SqL K H l xs) : SqL K H' l xs := by
  rcases h with (h | ⟨o, h⟩) | h
  · exact .inl (.inl (b _ _ h))
  · exact .inl (.inr ⟨o, b _ _ h⟩)
  · exact .inr h
section
variable {P : Program} {w : World} {K : PySem.W.Frag} {mg : Str → Option Value} {base : Heap}
theorem ok_law (T : Tx P K mg) (X : Fx T) : FnG P w K mg base CX0 8 T.a_law T.fd_law ["_law_script"] (spLaw K) := by
  have G__law_pot_of := ok_pot (w := w) (base := base) T
  have G__law_right := ok_right (w := w) (base := base) T X
  refine funG T.F_law sc_law (fun vs H Q E h => ?_) (fun cdv A outer s H vs Q E hgd hr h => ?_)
  · obtain ⟨a, ns, rfl, _⟩ := h
    rfl
  obtain ⟨a, ns, rfl, ha, hz, k⟩ := h
  refine ⟨_, (pss_cons (ps_for PassesOwn.never rfl (pi_range1 (by rfl) T.n_range (pa_cons (pe_callB (call_max2 rfl) (by rfl) T.n_max PyProof.Rows.Boot.«max» (pa_cons pe_int (pa_cons (pe_callB (call_min2 rfl) (by rfl) T.n_min PyProof.Rows.Boot.«min» (pa_cons pe_int (pa_cons (pe_callB call_len (by rfl) T.n_len PyProof.Rows.Boot.«len» (pa_cons (pv 0) pa_nil)) pa_nil))) pa_nil))) pa_nil)) (pg_name (i := 1) sc_law.nd rfl (Or.inl rfl)) (pss_cons (ps_set (i := 2) sc_law.nd rfl (Or.inr rfl) (pe_call G__law_pot_of (hr.mono (by first | decide | omega)) (by rfl) T.m__law_pot_of T.F__law_pot_of.kp T.b__law_pot_of .nil pass0 (pa_cons (pv 0) (pa_cons (pv 1) pa_nil))))
      (pss_one (ps_if (pt_not (pt_val (pe_callB (cr_all rfl) (by rfl) T.n_all PyProof.Rows.Boot.«all» (pa_cons (pe_lc (own := [("_law_turn", 3)]) (g := gName 3) (tt := tYes) (by rfl) sc_law.nd (pi_range1 (by rfl) T.n_range (pa_cons pe_int pa_nil)) (blkOk_by (own := [("_law_turn", 3)]) (N := ["_law_script", "_law_k", "_law_pot", "_law_turn"]) (sc := defScope s_law) (by decide +kernel)) (fun _ _ _ _ _ => (pg_name (i := 3) sc_law.nd rfl (Or.inl rfl))) (fun _ _ _ _ _ => pts_nil) (fun _ _ _ _ _ => (pe_callG G__law_right hgd (hr.mono (by first | decide | omega)) (by rfl) T.m__law_right T.F__law_right.kp T.b__law_right .nil pass0 (pa_cons (pv 2) pa_nil)))) pa_nil)))) (pss_one (ps_ret pe_bl)) pss_nil))))
      (pss_one (ps_ret pe_bl))), ?_⟩
  have hc := cnt_ok (ns.map V.int).length
  refine ⟨_, rfl, _, _, rfl, .inl ⟨_, ha, rfl⟩, _, _, rfl, _, _, rfl, _, rfl, cnt_lo _, cnt_hi _, for_it walk_range (fun i σ H3 => ∃ x1 x2, σ = [some (.ref a), x1, x2, none] ∧ Same H H3) ⟨none, none, rfl, Same.refl _⟩ (fun _ _ _ _ _ => trivial) ?_ fun σ H3 _ => k H3⟩
  rintro i x σ H3 H4 hi ⟨x1, x2, rfl, s3⟩ ⟨rfl, rfl⟩
  have hi3 : (i : Int) < 3 := by
    have h3 : i < (cnt (ns.map V.int).length).toNat := hi
    omega
  refine ⟨_, rfl, _, rfl, a, ns, _, rfl, sq_same s3 ha, hz, by omega, by omega, fun H5 p s5 np hp => ?_⟩
  refine ⟨(8 : Int), rfl, by decide, by decide, fun D nD => lc_it walk_range (fun j H6 => But p H5 H6 ∧ PotAt H6 p (8 * (j : Int)) ∧ H6 D = some (.lst (List.replicate j (V.bl true)))) ⟨But.same (same_new nD), pot_upd (hp.up (by omega)) (pot_ne hp nD), upd_same⟩ (fun _ _ _ _ => trivial) ?_ ?_⟩
  · rintro j x H6 H7 hj ⟨b6, hp6, hD⟩ ⟨rfl, rfl⟩
    have hj8 : j < 8 := hj
    refine ⟨rfl, _, rfl, p, 8 * (j : Int), rfl, hp6, by omega, fun H7 b7 hp7 => ⟨_, b7 _ _ (pot_ne hp nD).symm hD, ?_, ?_, ?_, ?_⟩⟩
    · rw [List.length_replicate, sizeLine_eq]
      omega
    · intro b o n e
      rw [upd_ne (ne_of_none e nD)]
      exact b7 _ _ n (b6 _ _ n e)
    · exact (pot_upd hp7 (pot_ne hp nD)).up (by omega)
    · rw [upd_same, List.replicate_succ']
  · rintro H6 ⟨b6, hp6, hD⟩
    refine ⟨D, List.replicate 8 true, rfl, SqL.of hD, true, rfl, ?_⟩
    refine iF ?_
    exact ⟨_, _, rfl, fun b o e => b6 _ _ (ne_of_none (s3 _ _ e) np) (s5 _ _ (s3 _ _ e))⟩
end
end K13
end
set_option Elab.async false
set_option linter.all false
set_option maxRecDepth 100000
set_option maxHeartbeats 8000000
namespace K13
open PySem PySem.Spec PyProof.Rows L2 Tg
def apB (K : PySem.W.Frag) (cs : List Addr) : Bool := cs.all fun c => cs.all fun d => PySem.W.kitOne K (.ref c) (.ref d) == some (decide (d = c))
theorem apB_ok {K : PySem.W.Frag} {cs : List Addr} (hn : cs.Nodup) (h : apB K cs = true) : Apart K cs := by
  intro i j C D hi hj
  have h1 := List.all_eq_true.mp (List.all_eq_true.mp h C (List.mem_of_getElem? hi)) D (List.mem_of_getElem? hj)
  have h2 := eq_of_beq h1
  rw [h2]
  congr 1
  by_cases e : j = i
  · subst e
    rw [hi] at hj
    injection hj with hj
    rw [decide_eq_true hj.symm, decide_eq_true rfl]
  · rw [decide_eq_false e, decide_eq_false]
    intro hD
    subst hD
    obtain ⟨hl, _⟩ := List.getElem?_eq_some_iff.mp hj
    exact e ((List.getElem?_inj hl hn).mp (hj.trans hi.symm))
def upB (K : PySem.W.Frag) (D : Addr) (cs : List Addr) : Bool := cs.all fun c => PySem.W.kitOne K (.ref c) (.ref D) == some true && PySem.W.kitOne K (.ref c) (.type "ValueError") == some true
theorem upB_ok {K : PySem.W.Frag} {D : Addr} {cs : List Addr} (h : upB K D cs = true) : ∀ C, C ∈ cs → PySem.W.kitOne K (.ref C) (.ref D) = some true ∧ PySem.W.kitOne K (.ref C) (.type "ValueError") = some true := by
  intro C hC
  have h1 := List.all_eq_true.mp h C hC
  rw [Bool.and_eq_true] at h1
  exact ⟨eq_of_beq h1.1, eq_of_beq h1.2⟩
def tx_mk {P : Program} {K : PySem.W.Frag} {h : Heap} {mg : Str → Option Value} (X : K.In h) (G : h.Ns mainGlobals mg)
    {C0 fI cda cc : Addr} {ql file : Str} {kV dc pm ct oc ccl cl : Value} {an od cdd cld : Option Addr} {sl ccs csl : Array (Option Value)} {vs : Array Value} {tf : Tok} {cdD : ClassData}
    {C_TaglessError C_NoKind C_NoDocument C_BadBook C_Unnamed C_Ring C_BadForms C_Clash C_NoReading C_BadReading C_BadSide C_TooLarge C_NotEither C_BadOrder C_NoOrder C_TooMany C_BadMember C_BadPlace C_BadField C_NoField C_BadDraft C_BadRoad C_BadChanges C_BadOffers C_BadWish C_BadEdition C_BadTruth C_Broken C_NotKept C_NoNumber C_Turned C_NothingToUndo C_NothingToRedo C_NoTrial C_BadText C_BadJournal C_BadLine : Addr}
    {t_MOST_LETTERS : Tok}
    {a_is_name : Addr} {od_is_name an_is_name : Option Addr} {sl_is_name : Array (Option Value)} {oc_is_name kV_is_name dc_is_name pm_is_name cd_is_name ct_is_name : Value}
    {a_is_document : Addr} {od_is_document an_is_document : Option Addr} {sl_is_document : Array (Option Value)} {oc_is_document kV_is_document dc_is_document pm_is_document cd_is_document ct_is_document : Value}
    {a_check_document : Addr} {od_check_document an_check_document : Option Addr} {sl_check_document : Array (Option Value)} {oc_check_document kV_check_document dc_check_document pm_check_document cd_check_document ct_check_document : Value}
    {a_parts_in : Addr} {od_parts_in an_parts_in : Option Addr} {sl_parts_in : Array (Option Value)} {oc_parts_in kV_parts_in dc_parts_in pm_parts_in cd_parts_in ct_parts_in : Value}
    {a_size : Addr} {od_size an_size : Option Addr} {sl_size : Array (Option Value)} {oc_size kV_size dc_size pm_size cd_size ct_size : Value}
    {a__law_pot_of : Addr} {od__law_pot_of an__law_pot_of : Option Addr} {sl__law_pot_of : Array (Option Value)} {oc__law_pot_of kV__law_pot_of dc__law_pot_of pm__law_pot_of cd__law_pot_of ct__law_pot_of : Value}
    {a__law_take : Addr} {od__law_take an__law_take : Option Addr} {sl__law_take : Array (Option Value)} {oc__law_take kV__law_take dc__law_take pm__law_take cd__law_take ct__law_take : Value}
    {a__law_of : Addr} {od__law_of an__law_of : Option Addr} {sl__law_of : Array (Option Value)} {oc__law_of kV__law_of dc__law_of pm__law_of cd__law_of ct__law_of : Value}
    {a__law_made : Addr} {od__law_made an__law_made : Option Addr} {sl__law_made : Array (Option Value)} {oc__law_made kV__law_made dc__law_made pm__law_made cd__law_made ct__law_made : Value}
    {a__law_marks : Addr} {od__law_marks an__law_marks : Option Addr} {sl__law_marks : Array (Option Value)} {oc__law_marks kV__law_marks dc__law_marks pm__law_marks cd__law_marks ct__law_marks : Value}
    {a__law_thing : Addr} {od__law_thing an__law_thing : Option Addr} {sl__law_thing : Array (Option Value)} {oc__law_thing kV__law_thing dc__law_thing pm__law_thing cd__law_thing ct__law_thing : Value}
    {a__law_right : Addr} {od__law_right an__law_right : Option Addr} {sl__law_right : Array (Option Value)} {oc__law_right kV__law_right dc__law_right pm__law_right cd__law_right ct__law_right : Value}
    {a_law : Addr} {od_law an_law : Option Addr} {sl_law : Array (Option Value)} {oc_law kV_law dc_law pm_law cd_law ct_law : Value}
    (aD : PySem.W.nsIn K mainGlobals "TaglessError" = some (some (.ref C0)))
    (iD : PySem.W.findIn K (.ref C0) "__init__" = some (some (.ref fI)))
    (iL : K.lookup fI = some ⟨oc, od, .func (iFn ql .none kV dc pm an cda ct cc), sl⟩)
    (iC : PySem.W.codeIn K (.ref cda) ql = true)
    (iO : K.lookup cda = some ⟨ccl, cdd, .fields vs, ccs⟩)
    (iV : vs[2]? = some (.str file tf))
    (iF : ((P.main.file : Str) == file) = true)
    (iE : K.lookup cc = some ⟨cl, cld, .cell (some (.ref C0)), csl⟩)
    (iK : PySem.W.clsIn K C0 = some cdD)
    (iS : PySem.W.nsIn K mainGlobals "super" = some none)
    (iT : PySem.W.nsIn K cStatics "thirdparty.any" = some none)
    (iP : (P.main.scope.names.lookup ("super" : Str)).isSome = false)
    (iY : PySem.W.typeIn K (.ref fI) = some (.type "function"))
    (aC_TaglessError : PySem.W.nsIn K mainGlobals "TaglessError" = some (some (.ref C_TaglessError)))
    (aC_NoKind : PySem.W.nsIn K mainGlobals "NoKind" = some (some (.ref C_NoKind)))
    (aC_NoDocument : PySem.W.nsIn K mainGlobals "NoDocument" = some (some (.ref C_NoDocument)))
    (aC_BadBook : PySem.W.nsIn K mainGlobals "BadBook" = some (some (.ref C_BadBook)))
    (aC_Unnamed : PySem.W.nsIn K mainGlobals "Unnamed" = some (some (.ref C_Unnamed)))
    (aC_Ring : PySem.W.nsIn K mainGlobals "Ring" = some (some (.ref C_Ring)))
    (aC_BadForms : PySem.W.nsIn K mainGlobals "BadForms" = some (some (.ref C_BadForms)))
    (aC_Clash : PySem.W.nsIn K mainGlobals "Clash" = some (some (.ref C_Clash)))
    (aC_NoReading : PySem.W.nsIn K mainGlobals "NoReading" = some (some (.ref C_NoReading)))
    (aC_BadReading : PySem.W.nsIn K mainGlobals "BadReading" = some (some (.ref C_BadReading)))
    (aC_BadSide : PySem.W.nsIn K mainGlobals "BadSide" = some (some (.ref C_BadSide)))
    (aC_TooLarge : PySem.W.nsIn K mainGlobals "TooLarge" = some (some (.ref C_TooLarge)))
    (aC_NotEither : PySem.W.nsIn K mainGlobals "NotEither" = some (some (.ref C_NotEither)))
    (aC_BadOrder : PySem.W.nsIn K mainGlobals "BadOrder" = some (some (.ref C_BadOrder)))
    (aC_NoOrder : PySem.W.nsIn K mainGlobals "NoOrder" = some (some (.ref C_NoOrder)))
    (aC_TooMany : PySem.W.nsIn K mainGlobals "TooMany" = some (some (.ref C_TooMany)))
    (aC_BadMember : PySem.W.nsIn K mainGlobals "BadMember" = some (some (.ref C_BadMember)))
    (aC_BadPlace : PySem.W.nsIn K mainGlobals "BadPlace" = some (some (.ref C_BadPlace)))
    (aC_BadField : PySem.W.nsIn K mainGlobals "BadField" = some (some (.ref C_BadField)))
    (aC_NoField : PySem.W.nsIn K mainGlobals "NoField" = some (some (.ref C_NoField)))
    (aC_BadDraft : PySem.W.nsIn K mainGlobals "BadDraft" = some (some (.ref C_BadDraft)))
    (aC_BadRoad : PySem.W.nsIn K mainGlobals "BadRoad" = some (some (.ref C_BadRoad)))
    (aC_BadChanges : PySem.W.nsIn K mainGlobals "BadChanges" = some (some (.ref C_BadChanges)))
    (aC_BadOffers : PySem.W.nsIn K mainGlobals "BadOffers" = some (some (.ref C_BadOffers)))
    (aC_BadWish : PySem.W.nsIn K mainGlobals "BadWish" = some (some (.ref C_BadWish)))
    (aC_BadEdition : PySem.W.nsIn K mainGlobals "BadEdition" = some (some (.ref C_BadEdition)))
    (aC_BadTruth : PySem.W.nsIn K mainGlobals "BadTruth" = some (some (.ref C_BadTruth)))
    (aC_Broken : PySem.W.nsIn K mainGlobals "Broken" = some (some (.ref C_Broken)))
    (aC_NotKept : PySem.W.nsIn K mainGlobals "NotKept" = some (some (.ref C_NotKept)))
    (aC_NoNumber : PySem.W.nsIn K mainGlobals "NoNumber" = some (some (.ref C_NoNumber)))
    (aC_Turned : PySem.W.nsIn K mainGlobals "Turned" = some (some (.ref C_Turned)))
    (aC_NothingToUndo : PySem.W.nsIn K mainGlobals "NothingToUndo" = some (some (.ref C_NothingToUndo)))
    (aC_NothingToRedo : PySem.W.nsIn K mainGlobals "NothingToRedo" = some (some (.ref C_NothingToRedo)))
    (aC_NoTrial : PySem.W.nsIn K mainGlobals "NoTrial" = some (some (.ref C_NoTrial)))
    (aC_BadText : PySem.W.nsIn K mainGlobals "BadText" = some (some (.ref C_BadText)))
    (aC_BadJournal : PySem.W.nsIn K mainGlobals "BadJournal" = some (some (.ref C_BadJournal)))
    (aC_BadLine : PySem.W.nsIn K mainGlobals "BadLine" = some (some (.ref C_BadLine)))
    (eC : ([C_TaglessError, C_NoKind, C_NoDocument, C_BadBook, C_Unnamed, C_Ring, C_BadForms, C_Clash, C_NoReading, C_BadReading, C_BadSide, C_TooLarge, C_NotEither, C_BadOrder, C_NoOrder, C_TooMany, C_BadMember, C_BadPlace, C_BadField, C_NoField, C_BadDraft, C_BadRoad, C_BadChanges, C_BadOffers, C_BadWish, C_BadEdition, C_BadTruth, C_Broken, C_NotKept, C_NoNumber, C_Turned, C_NothingToUndo, C_NothingToRedo, C_NoTrial, C_BadText, C_BadJournal, C_BadLine].all fun c => errB K fI C0 c) = true)
    (k_MOST_LETTERS : PySem.W.nsIn K mainGlobals "MOST_LETTERS" = some (some (.int 8 t_MOST_LETTERS)))
    (z_ValueError : PySem.W.nsIn K mainGlobals "ValueError" = some none)
    (z_abs : PySem.W.nsIn K mainGlobals "abs" = some none)
    (z_all : PySem.W.nsIn K mainGlobals "all" = some none)
    (z_bool : PySem.W.nsIn K mainGlobals "bool" = some none)
    (z_dict : PySem.W.nsIn K mainGlobals "dict" = some none)
    (z_enumerate : PySem.W.nsIn K mainGlobals "enumerate" = some none)
    (z_int : PySem.W.nsIn K mainGlobals "int" = some none)
    (z_isinstance : PySem.W.nsIn K mainGlobals "isinstance" = some none)
    (z_len : PySem.W.nsIn K mainGlobals "len" = some none)
    (z_list : PySem.W.nsIn K mainGlobals "list" = some none)
    (z_max : PySem.W.nsIn K mainGlobals "max" = some none)
    (z_min : PySem.W.nsIn K mainGlobals "min" = some none)
    (z_range : PySem.W.nsIn K mainGlobals "range" = some none)
    (z_repr : PySem.W.nsIn K mainGlobals "repr" = some none)
    (z_str : PySem.W.nsIn K mainGlobals "str" = some none)
    (z_sum : PySem.W.nsIn K mainGlobals "sum" = some none)
    (aF_is_name : PySem.W.nsIn K mainGlobals "is_name" = some (some (.ref a_is_name)))
    (l_is_name : K.lookup a_is_name = some ⟨oc_is_name, od_is_name, .func (PySem.W.fnOf "is_name" "is_name" (defArgs s_is_name) (defBody s_is_name) (defScope s_is_name) .none kV_is_name dc_is_name pm_is_name an_is_name cd_is_name ct_is_name), sl_is_name⟩)
    (c_is_name : PySem.W.codeIn K cd_is_name "is_name" = true)
    (k_is_name : PySem.W.keepIn K (.ref a_is_name) = true)
    (aF_is_document : PySem.W.nsIn K mainGlobals "is_document" = some (some (.ref a_is_document)))
    (l_is_document : K.lookup a_is_document = some ⟨oc_is_document, od_is_document, .func (PySem.W.fnOf "is_document" "is_document" (defArgs s_is_document) (defBody s_is_document) (defScope s_is_document) .none kV_is_document dc_is_document pm_is_document an_is_document cd_is_document ct_is_document), sl_is_document⟩)
    (c_is_document : PySem.W.codeIn K cd_is_document "is_document" = true)
    (k_is_document : PySem.W.keepIn K (.ref a_is_document) = true)
    (aF_check_document : PySem.W.nsIn K mainGlobals "check_document" = some (some (.ref a_check_document)))
    (l_check_document : K.lookup a_check_document = some ⟨oc_check_document, od_check_document, .func (PySem.W.fnOf "check_document" "check_document" (defArgs s_check_document) (defBody s_check_document) (defScope s_check_document) .none kV_check_document dc_check_document pm_check_document an_check_document cd_check_document ct_check_document), sl_check_document⟩)
    (c_check_document : PySem.W.codeIn K cd_check_document "check_document" = true)
    (k_check_document : PySem.W.keepIn K (.ref a_check_document) = true)
    (aF_parts_in : PySem.W.nsIn K mainGlobals "parts_in" = some (some (.ref a_parts_in)))
    (l_parts_in : K.lookup a_parts_in = some ⟨oc_parts_in, od_parts_in, .func (PySem.W.fnOf "parts_in" "parts_in" (defArgs s_parts_in) (defBody s_parts_in) (defScope s_parts_in) .none kV_parts_in dc_parts_in pm_parts_in an_parts_in cd_parts_in ct_parts_in), sl_parts_in⟩)
    (c_parts_in : PySem.W.codeIn K cd_parts_in "parts_in" = true)
    (k_parts_in : PySem.W.keepIn K (.ref a_parts_in) = true)
    (aF_size : PySem.W.nsIn K mainGlobals "size" = some (some (.ref a_size)))
    (l_size : K.lookup a_size = some ⟨oc_size, od_size, .func (PySem.W.fnOf "size" "size" (defArgs s_size) (defBody s_size) (defScope s_size) .none kV_size dc_size pm_size an_size cd_size ct_size), sl_size⟩)
    (c_size : PySem.W.codeIn K cd_size "size" = true)
    (k_size : PySem.W.keepIn K (.ref a_size) = true)
    (aF__law_pot_of : PySem.W.nsIn K mainGlobals "_law_pot_of" = some (some (.ref a__law_pot_of)))
    (l__law_pot_of : K.lookup a__law_pot_of = some ⟨oc__law_pot_of, od__law_pot_of, .func (PySem.W.fnOf "_law_pot_of" "_law_pot_of" (defArgs s__law_pot_of) (defBody s__law_pot_of) (defScope s__law_pot_of) .none kV__law_pot_of dc__law_pot_of pm__law_pot_of an__law_pot_of cd__law_pot_of ct__law_pot_of), sl__law_pot_of⟩)
    (c__law_pot_of : PySem.W.codeIn K cd__law_pot_of "_law_pot_of" = true)
    (k__law_pot_of : PySem.W.keepIn K (.ref a__law_pot_of) = true)
    (aF__law_take : PySem.W.nsIn K mainGlobals "_law_take" = some (some (.ref a__law_take)))
    (l__law_take : K.lookup a__law_take = some ⟨oc__law_take, od__law_take, .func (PySem.W.fnOf "_law_take" "_law_take" (defArgs s__law_take) (defBody s__law_take) (defScope s__law_take) .none kV__law_take dc__law_take pm__law_take an__law_take cd__law_take ct__law_take), sl__law_take⟩)
    (c__law_take : PySem.W.codeIn K cd__law_take "_law_take" = true)
    (k__law_take : PySem.W.keepIn K (.ref a__law_take) = true)
    (aF__law_of : PySem.W.nsIn K mainGlobals "_law_of" = some (some (.ref a__law_of)))
    (l__law_of : K.lookup a__law_of = some ⟨oc__law_of, od__law_of, .func (PySem.W.fnOf "_law_of" "_law_of" (defArgs s__law_of) (defBody s__law_of) (defScope s__law_of) .none kV__law_of dc__law_of pm__law_of an__law_of cd__law_of ct__law_of), sl__law_of⟩)
    (c__law_of : PySem.W.codeIn K cd__law_of "_law_of" = true)
    (k__law_of : PySem.W.keepIn K (.ref a__law_of) = true)
    (aF__law_made : PySem.W.nsIn K mainGlobals "_law_made" = some (some (.ref a__law_made)))
    (l__law_made : K.lookup a__law_made = some ⟨oc__law_made, od__law_made, .func (PySem.W.fnOf "_law_made" "_law_made" (defArgs s__law_made) (defBody s__law_made) (defScope s__law_made) .none kV__law_made dc__law_made pm__law_made an__law_made cd__law_made ct__law_made), sl__law_made⟩)
    (c__law_made : PySem.W.codeIn K cd__law_made "_law_made" = true)
    (k__law_made : PySem.W.keepIn K (.ref a__law_made) = true)
    (aF__law_marks : PySem.W.nsIn K mainGlobals "_law_marks" = some (some (.ref a__law_marks)))
    (l__law_marks : K.lookup a__law_marks = some ⟨oc__law_marks, od__law_marks, .func (PySem.W.fnOf "_law_marks" "_law_marks" (defArgs s__law_marks) (defBody s__law_marks) (defScope s__law_marks) .none kV__law_marks dc__law_marks pm__law_marks an__law_marks cd__law_marks ct__law_marks), sl__law_marks⟩)
    (c__law_marks : PySem.W.codeIn K cd__law_marks "_law_marks" = true)
    (k__law_marks : PySem.W.keepIn K (.ref a__law_marks) = true)
    (aF__law_thing : PySem.W.nsIn K mainGlobals "_law_thing" = some (some (.ref a__law_thing)))
    (l__law_thing : K.lookup a__law_thing = some ⟨oc__law_thing, od__law_thing, .func (PySem.W.fnOf "_law_thing" "_law_thing" (defArgs s__law_thing) (defBody s__law_thing) (defScope s__law_thing) .none kV__law_thing dc__law_thing pm__law_thing an__law_thing cd__law_thing ct__law_thing), sl__law_thing⟩)
    (c__law_thing : PySem.W.codeIn K cd__law_thing "_law_thing" = true)
    (k__law_thing : PySem.W.keepIn K (.ref a__law_thing) = true)
    (aF__law_right : PySem.W.nsIn K mainGlobals "_law_right" = some (some (.ref a__law_right)))
    (l__law_right : K.lookup a__law_right = some ⟨oc__law_right, od__law_right, .func (PySem.W.fnOf "_law_right" "_law_right" (defArgs s__law_right) (defBody s__law_right) (defScope s__law_right) .none kV__law_right dc__law_right pm__law_right an__law_right cd__law_right ct__law_right), sl__law_right⟩)
    (c__law_right : PySem.W.codeIn K cd__law_right "_law_right" = true)
    (k__law_right : PySem.W.keepIn K (.ref a__law_right) = true)
    (aF_law : PySem.W.nsIn K mainGlobals "law" = some (some (.ref a_law)))
    (l_law : K.lookup a_law = some ⟨oc_law, od_law, .func (PySem.W.fnOf "law" "law" (defArgs s_law) (defBody s_law) (defScope s_law) .none kV_law dc_law pm_law an_law cd_law ct_law), sl_law⟩)
    (c_law : PySem.W.codeIn K cd_law "law" = true)
    (k_law : PySem.W.keepIn K (.ref a_law) = true) : Tx P K mg :=
  { D := C0,
    fI := fI,
    fdI := iFn ql .none kV dc pm an cda ct cc,
    ini := ⟨⟨ql, file, .none, kV, dc, pm, ct, oc, ccl, cl, an, od, cdd, cld, sl, ccs, csl, cda, cc, vs, tf, cdD, rfl, iL, iC, iO, iV, iF, iE, iK⟩, PySem.W.mg_none_of X G iS, iT, iP, iY⟩,
    b_ini := .all fun us hl => match us, hl with | [_, _], _ => rfl,
    C_TaglessError := C_TaglessError,
    e_TaglessError := errB_ok (List.all_eq_true.mp eC C_TaglessError (by simp)),
    m_TaglessError := PySem.W.mg_of X G aC_TaglessError,
    C_NoKind := C_NoKind,
    e_NoKind := errB_ok (List.all_eq_true.mp eC C_NoKind (by simp)),
    m_NoKind := PySem.W.mg_of X G aC_NoKind,
    C_NoDocument := C_NoDocument,
    e_NoDocument := errB_ok (List.all_eq_true.mp eC C_NoDocument (by simp)),
    m_NoDocument := PySem.W.mg_of X G aC_NoDocument,
    C_BadBook := C_BadBook,
    e_BadBook := errB_ok (List.all_eq_true.mp eC C_BadBook (by simp)),
    m_BadBook := PySem.W.mg_of X G aC_BadBook,
    C_Unnamed := C_Unnamed,
    e_Unnamed := errB_ok (List.all_eq_true.mp eC C_Unnamed (by simp)),
    m_Unnamed := PySem.W.mg_of X G aC_Unnamed,
    C_Ring := C_Ring,
    e_Ring := errB_ok (List.all_eq_true.mp eC C_Ring (by simp)),
    m_Ring := PySem.W.mg_of X G aC_Ring,
    C_BadForms := C_BadForms,
    e_BadForms := errB_ok (List.all_eq_true.mp eC C_BadForms (by simp)),
    m_BadForms := PySem.W.mg_of X G aC_BadForms,
    C_Clash := C_Clash,
    e_Clash := errB_ok (List.all_eq_true.mp eC C_Clash (by simp)),
    m_Clash := PySem.W.mg_of X G aC_Clash,
    C_NoReading := C_NoReading,
    e_NoReading := errB_ok (List.all_eq_true.mp eC C_NoReading (by simp)),
    m_NoReading := PySem.W.mg_of X G aC_NoReading,
    C_BadReading := C_BadReading,
    e_BadReading := errB_ok (List.all_eq_true.mp eC C_BadReading (by simp)),
    m_BadReading := PySem.W.mg_of X G aC_BadReading,
    C_BadSide := C_BadSide,
    e_BadSide := errB_ok (List.all_eq_true.mp eC C_BadSide (by simp)),
    m_BadSide := PySem.W.mg_of X G aC_BadSide,
    C_TooLarge := C_TooLarge,
    e_TooLarge := errB_ok (List.all_eq_true.mp eC C_TooLarge (by simp)),
    m_TooLarge := PySem.W.mg_of X G aC_TooLarge,
    C_NotEither := C_NotEither,
    e_NotEither := errB_ok (List.all_eq_true.mp eC C_NotEither (by simp)),
    m_NotEither := PySem.W.mg_of X G aC_NotEither,
    C_BadOrder := C_BadOrder,
    e_BadOrder := errB_ok (List.all_eq_true.mp eC C_BadOrder (by simp)),
    m_BadOrder := PySem.W.mg_of X G aC_BadOrder,
    C_NoOrder := C_NoOrder,
    e_NoOrder := errB_ok (List.all_eq_true.mp eC C_NoOrder (by simp)),
    m_NoOrder := PySem.W.mg_of X G aC_NoOrder,
    C_TooMany := C_TooMany,
    e_TooMany := errB_ok (List.all_eq_true.mp eC C_TooMany (by simp)),
    m_TooMany := PySem.W.mg_of X G aC_TooMany,
    C_BadMember := C_BadMember,
    e_BadMember := errB_ok (List.all_eq_true.mp eC C_BadMember (by simp)),
    m_BadMember := PySem.W.mg_of X G aC_BadMember,
    C_BadPlace := C_BadPlace,
    e_BadPlace := errB_ok (List.all_eq_true.mp eC C_BadPlace (by simp)),
    m_BadPlace := PySem.W.mg_of X G aC_BadPlace,
    C_BadField := C_BadField,
    e_BadField := errB_ok (List.all_eq_true.mp eC C_BadField (by simp)),
    m_BadField := PySem.W.mg_of X G aC_BadField,
    C_NoField := C_NoField,
    e_NoField := errB_ok (List.all_eq_true.mp eC C_NoField (by simp)),
    m_NoField := PySem.W.mg_of X G aC_NoField,
    C_BadDraft := C_BadDraft,
    e_BadDraft := errB_ok (List.all_eq_true.mp eC C_BadDraft (by simp)),
    m_BadDraft := PySem.W.mg_of X G aC_BadDraft,
    C_BadRoad := C_BadRoad,
    e_BadRoad := errB_ok (List.all_eq_true.mp eC C_BadRoad (by simp)),
    m_BadRoad := PySem.W.mg_of X G aC_BadRoad,
    C_BadChanges := C_BadChanges,
    e_BadChanges := errB_ok (List.all_eq_true.mp eC C_BadChanges (by simp)),
    m_BadChanges := PySem.W.mg_of X G aC_BadChanges,
    C_BadOffers := C_BadOffers,
    e_BadOffers := errB_ok (List.all_eq_true.mp eC C_BadOffers (by simp)),
    m_BadOffers := PySem.W.mg_of X G aC_BadOffers,
    C_BadWish := C_BadWish,
    e_BadWish := errB_ok (List.all_eq_true.mp eC C_BadWish (by simp)),
    m_BadWish := PySem.W.mg_of X G aC_BadWish,
    C_BadEdition := C_BadEdition,
    e_BadEdition := errB_ok (List.all_eq_true.mp eC C_BadEdition (by simp)),
    m_BadEdition := PySem.W.mg_of X G aC_BadEdition,
    C_BadTruth := C_BadTruth,
    e_BadTruth := errB_ok (List.all_eq_true.mp eC C_BadTruth (by simp)),
    m_BadTruth := PySem.W.mg_of X G aC_BadTruth,
    C_Broken := C_Broken,
    e_Broken := errB_ok (List.all_eq_true.mp eC C_Broken (by simp)),
    m_Broken := PySem.W.mg_of X G aC_Broken,
    C_NotKept := C_NotKept,
    e_NotKept := errB_ok (List.all_eq_true.mp eC C_NotKept (by simp)),
    m_NotKept := PySem.W.mg_of X G aC_NotKept,
    C_NoNumber := C_NoNumber,
    e_NoNumber := errB_ok (List.all_eq_true.mp eC C_NoNumber (by simp)),
    m_NoNumber := PySem.W.mg_of X G aC_NoNumber,
    C_Turned := C_Turned,
    e_Turned := errB_ok (List.all_eq_true.mp eC C_Turned (by simp)),
    m_Turned := PySem.W.mg_of X G aC_Turned,
    C_NothingToUndo := C_NothingToUndo,
    e_NothingToUndo := errB_ok (List.all_eq_true.mp eC C_NothingToUndo (by simp)),
    m_NothingToUndo := PySem.W.mg_of X G aC_NothingToUndo,
    C_NothingToRedo := C_NothingToRedo,
    e_NothingToRedo := errB_ok (List.all_eq_true.mp eC C_NothingToRedo (by simp)),
    m_NothingToRedo := PySem.W.mg_of X G aC_NothingToRedo,
    C_NoTrial := C_NoTrial,
    e_NoTrial := errB_ok (List.all_eq_true.mp eC C_NoTrial (by simp)),
    m_NoTrial := PySem.W.mg_of X G aC_NoTrial,
    C_BadText := C_BadText,
    e_BadText := errB_ok (List.all_eq_true.mp eC C_BadText (by simp)),
    m_BadText := PySem.W.mg_of X G aC_BadText,
    C_BadJournal := C_BadJournal,
    e_BadJournal := errB_ok (List.all_eq_true.mp eC C_BadJournal (by simp)),
    m_BadJournal := PySem.W.mg_of X G aC_BadJournal,
    C_BadLine := C_BadLine,
    e_BadLine := errB_ok (List.all_eq_true.mp eC C_BadLine (by simp)),
    m_BadLine := PySem.W.mg_of X G aC_BadLine,
    t_MOST_LETTERS := t_MOST_LETTERS,
    m_MOST_LETTERS := PySem.W.mg_of X G k_MOST_LETTERS,
    n_ValueError := PySem.W.mg_none_of X G z_ValueError,
    n_abs := PySem.W.mg_none_of X G z_abs,
    n_all := PySem.W.mg_none_of X G z_all,
    n_bool := PySem.W.mg_none_of X G z_bool,
    n_dict := PySem.W.mg_none_of X G z_dict,
    n_enumerate := PySem.W.mg_none_of X G z_enumerate,
    n_int := PySem.W.mg_none_of X G z_int,
    n_isinstance := PySem.W.mg_none_of X G z_isinstance,
    n_len := PySem.W.mg_none_of X G z_len,
    n_list := PySem.W.mg_none_of X G z_list,
    n_max := PySem.W.mg_none_of X G z_max,
    n_min := PySem.W.mg_none_of X G z_min,
    n_range := PySem.W.mg_none_of X G z_range,
    n_repr := PySem.W.mg_none_of X G z_repr,
    n_str := PySem.W.mg_none_of X G z_str,
    n_sum := PySem.W.mg_none_of X G z_sum,
    a_is_name := a_is_name,
    fd_is_name := _,
    F_is_name := fun_mk (st := s_is_name) l_is_name c_is_name k_is_name,
    b_is_name := (fun_mk (st := s_is_name) l_is_name c_is_name k_is_name).binds fun _ _ _ _ _ _ us hl => match us, hl with | [_], _ => rfl,
    m_is_name := PySem.W.mg_of X G aF_is_name,
    a_is_document := a_is_document,
    fd_is_document := _,
    F_is_document := fun_mk (st := s_is_document) l_is_document c_is_document k_is_document,
    b_is_document := (fun_mk (st := s_is_document) l_is_document c_is_document k_is_document).binds fun _ _ _ _ _ _ us hl => match us, hl with | [_], _ => rfl,
    m_is_document := PySem.W.mg_of X G aF_is_document,
    a_check_document := a_check_document,
    fd_check_document := _,
    F_check_document := fun_mk (st := s_check_document) l_check_document c_check_document k_check_document,
    b_check_document := (fun_mk (st := s_check_document) l_check_document c_check_document k_check_document).binds fun _ _ _ _ _ _ us hl => match us, hl with | [_], _ => rfl,
    m_check_document := PySem.W.mg_of X G aF_check_document,
    a_parts_in := a_parts_in,
    fd_parts_in := _,
    F_parts_in := fun_mk (st := s_parts_in) l_parts_in c_parts_in k_parts_in,
    b_parts_in := (fun_mk (st := s_parts_in) l_parts_in c_parts_in k_parts_in).binds fun _ _ _ _ _ _ us hl => match us, hl with | [_], _ => rfl,
    m_parts_in := PySem.W.mg_of X G aF_parts_in,
    a_size := a_size,
    fd_size := _,
    F_size := fun_mk (st := s_size) l_size c_size k_size,
    b_size := (fun_mk (st := s_size) l_size c_size k_size).binds fun _ _ _ _ _ _ us hl => match us, hl with | [_], _ => rfl,
    m_size := PySem.W.mg_of X G aF_size,
    a__law_pot_of := a__law_pot_of,
    fd__law_pot_of := _,
    F__law_pot_of := fun_mk (st := s__law_pot_of) l__law_pot_of c__law_pot_of k__law_pot_of,
    b__law_pot_of := (fun_mk (st := s__law_pot_of) l__law_pot_of c__law_pot_of k__law_pot_of).binds fun _ _ _ _ _ _ us hl => match us, hl with | [_, _], _ => rfl,
    m__law_pot_of := PySem.W.mg_of X G aF__law_pot_of,
    a__law_take := a__law_take,
    fd__law_take := _,
    F__law_take := fun_mk (st := s__law_take) l__law_take c__law_take k__law_take,
    b__law_take := (fun_mk (st := s__law_take) l__law_take c__law_take k__law_take).binds fun _ _ _ _ _ _ us hl => match us, hl with | [_, _], _ => rfl,
    m__law_take := PySem.W.mg_of X G aF__law_take,
    a__law_of := a__law_of,
    fd__law_of := _,
    F__law_of := fun_mk (st := s__law_of) l__law_of c__law_of k__law_of,
    b__law_of := (fun_mk (st := s__law_of) l__law_of c__law_of k__law_of).binds fun _ _ _ _ _ _ us hl => match us, hl with | [_, _], _ => rfl,
    m__law_of := PySem.W.mg_of X G aF__law_of,
    a__law_made := a__law_made,
    fd__law_made := _,
    F__law_made := fun_mk (st := s__law_made) l__law_made c__law_made k__law_made,
    b__law_made := (fun_mk (st := s__law_made) l__law_made c__law_made k__law_made).binds fun _ _ _ _ _ _ us hl => match us, hl with | [_], _ => rfl,
    m__law_made := PySem.W.mg_of X G aF__law_made,
    a__law_marks := a__law_marks,
    fd__law_marks := _,
    F__law_marks := fun_mk (st := s__law_marks) l__law_marks c__law_marks k__law_marks,
    b__law_marks := (fun_mk (st := s__law_marks) l__law_marks c__law_marks k__law_marks).binds fun _ _ _ _ _ _ us hl => match us, hl with | [_], _ => rfl,
    m__law_marks := PySem.W.mg_of X G aF__law_marks,
    a__law_thing := a__law_thing,
    fd__law_thing := _,
    F__law_thing := fun_mk (st := s__law_thing) l__law_thing c__law_thing k__law_thing,
    b__law_thing := (fun_mk (st := s__law_thing) l__law_thing c__law_thing k__law_thing).binds fun _ _ _ _ _ _ us hl => match us, hl with | [_, _], _ => rfl,
    m__law_thing := PySem.W.mg_of X G aF__law_thing,
    a__law_right := a__law_right,
    fd__law_right := _,
    F__law_right := fun_mk (st := s__law_right) l__law_right c__law_right k__law_right,
    b__law_right := (fun_mk (st := s__law_right) l__law_right c__law_right k__law_right).binds fun _ _ _ _ _ _ us hl => match us, hl with | [_], _ => rfl,
    m__law_right := PySem.W.mg_of X G aF__law_right,
    a_law := a_law,
    fd_law := _,
    F_law := fun_mk (st := s_law) l_law c_law k_law,
    b_law := (fun_mk (st := s_law) l_law c_law k_law).binds fun _ _ _ _ _ _ us hl => match us, hl with | [_], _ => rfl,
    m_law := PySem.W.mg_of X G aF_law }
theorem fin {P : Program} {w : World} {K : PySem.W.Frag} {mg : Str → Option Value} {fa : Addr} (hfa : mg "law" = some (.ref fa)) (T : Tx P K mg) (hb : ∀ (s : Shared) (v : Value), BindsTo s T.fd_law ⟨[v], []⟩ [("_law_script", v)]) (hn : decide ((cls T).Nodup) = true) (ha : apB K (cls T) = true) (hu : upB K T.C_TaglessError (cls T) = true)
    (he : ((cls T).all fun c => errB K T.fI T.D c) = true) (hx : PySem.W.exmOne K (.ref T.C_NoDocument) (.ref T.C_NoDocument) = some true) :
    ∃ fd : FuncData, (∀ (s : Shared) (v : Value), BindsTo s fd ⟨[v], []⟩ [("_law_script", v)]) ∧ ∀ base : Heap, K.In base → base.Ns mainGlobals mg → FnG P w K mg base CX0 8 fa fd ["_law_script"] (spLaw K) := by
  have e := hfa.symm.trans T.m_law
  injection e with e
  injection e with e
  subst e
  exact ⟨T.fd_law, hb, fun base _ _ => ok_law T ⟨apB_ok (of_decide_eq_true hn) ha, upB_ok hu, fun C hC => errB_ok (List.all_eq_true.mp he C hC), hx⟩⟩
end K13
open PySem PySem.W PyProof.Rows
set_option maxHeartbeats 0 in
theorem PySem.Challenge.cw_tagless_k13_errors_with_any_value_holds : PySem.Challenge.rw_tagless_k13_errors_with_any_value.Holds :=
  head (by
  k_fill
  refine Tg.walkG (l := PySem.Challenge.rw_tagless_k13_errors_with_any_value) (n := 63) (k := 8) (x := "_law_script") (CX := fun _ => L2.CX0) (sp := fun w => K13.spLaw _) rfl (by decide) rfl ⟨rfl, by decide, by decide⟩ (fun w h Y => kIn_of Y) ?F (fun _ _ a ns hl _ hS => ⟨a, ns, rfl, hS, hl, fun _ => rfl⟩) fun _ _ _ _ _ z => z
  case F =>
    intro w mg fa h KX G hmg
    refine' K13.fin hmg (K13.tx_mk KX G ?aD ?iD ?iL ?iC ?iO ?iV ?iF ?iE ?iK ?iS ?iT ?iP ?iY ?aC_TaglessError ?aC_NoKind ?aC_NoDocument ?aC_BadBook ?aC_Unnamed ?aC_Ring ?aC_BadForms ?aC_Clash ?aC_NoReading ?aC_BadReading ?aC_BadSide ?aC_TooLarge ?aC_NotEither ?aC_BadOrder ?aC_NoOrder ?aC_TooMany ?aC_BadMember ?aC_BadPlace ?aC_BadField ?aC_NoField ?aC_BadDraft ?aC_BadRoad ?aC_BadChanges ?aC_BadOffers ?aC_BadWish ?aC_BadEdition ?aC_BadTruth ?aC_Broken ?aC_NotKept ?aC_NoNumber ?aC_Turned ?aC_NothingToUndo ?aC_NothingToRedo ?aC_NoTrial ?aC_BadText ?aC_BadJournal ?aC_BadLine ?eC ?k_MOST_LETTERS ?z_ValueError ?z_abs ?z_all ?z_bool ?z_dict ?z_enumerate ?z_int ?z_isinstance ?z_len ?z_list ?z_max ?z_min ?z_range ?z_repr ?z_str ?z_sum ?aF_is_name ?l_is_name ?c_is_name ?k_is_name ?aF_is_document ?l_is_document ?c_is_document ?k_is_document ?aF_check_document ?l_check_document ?c_check_document ?k_check_document ?aF_parts_in ?l_parts_in ?c_parts_in ?k_parts_in ?aF_size ?l_size ?c_size ?k_size ?aF__law_pot_of ?l__law_pot_of ?c__law_pot_of ?k__law_pot_of ?aF__law_take ?l__law_take ?c__law_take ?k__law_take ?aF__law_of ?l__law_of ?c__law_of ?k__law_of ?aF__law_made ?l__law_made ?c__law_made ?k__law_made ?aF__law_marks ?l__law_marks ?c__law_marks ?k__law_marks ?aF__law_thing ?l__law_thing ?c__law_thing ?k__law_thing ?aF__law_right ?l__law_right ?c__law_right ?k__law_right ?aF_law ?l_law ?c_law ?k_law) ?hb ?hn ?ha ?hu ?he ?hx
    (case aD => k_is)
    (case iD => k_is)
    (case iL => k_is)
    (case iC => k_is)
    (case iO => k_is)
    (case iV => exact rfl)
    (case iF => (first | exact rfl | decide +kernel))
    (case iE => k_is)
    (case iK => k_is)
    (case iS => k_is)
    (case iT => k_is)
    (case iP => decide +kernel)
    (case iY => k_is)
    (case aC_TaglessError => k_is)
    (case aC_NoKind => k_is)
    (case aC_NoDocument => k_is)
    (case aC_BadBook => k_is)
    (case aC_Unnamed => k_is)
    (case aC_Ring => k_is)
    (case aC_BadForms => k_is)
    (case aC_Clash => k_is)
    (case aC_NoReading => k_is)
    (case aC_BadReading => k_is)
    (case aC_BadSide => k_is)
    (case aC_TooLarge => k_is)
    (case aC_NotEither => k_is)
    (case aC_BadOrder => k_is)
    (case aC_NoOrder => k_is)
    (case aC_TooMany => k_is)
    (case aC_BadMember => k_is)
    (case aC_BadPlace => k_is)
    (case aC_BadField => k_is)
    (case aC_NoField => k_is)
    (case aC_BadDraft => k_is)
    (case aC_BadRoad => k_is)
    (case aC_BadChanges => k_is)
    (case aC_BadOffers => k_is)
    (case aC_BadWish => k_is)
    (case aC_BadEdition => k_is)
    (case aC_BadTruth => k_is)
    (case aC_Broken => k_is)
    (case aC_NotKept => k_is)
    (case aC_NoNumber => k_is)
    (case aC_Turned => k_is)
    (case aC_NothingToUndo => k_is)
    (case aC_NothingToRedo => k_is)
    (case aC_NoTrial => k_is)
    (case aC_BadText => k_is)
    (case aC_BadJournal => k_is)
    (case aC_BadLine => k_is)
    (case eC => kernel_rfl)
    (case k_MOST_LETTERS => k_is)
    (case z_ValueError => k_is)
    (case z_abs => k_is)
    (case z_all => k_is)
    (case z_bool => k_is)
    (case z_dict => k_is)
    (case z_enumerate => k_is)
    (case z_int => k_is)
    (case z_isinstance => k_is)
    (case z_len => k_is)
    (case z_list => k_is)
    (case z_max => k_is)
    (case z_min => k_is)
    (case z_range => k_is)
    (case z_repr => k_is)
    (case z_str => k_is)
    (case z_sum => k_is)
    (case aF_is_name => k_is)
    (case l_is_name => k_is)
    (case c_is_name => k_is)
    (case k_is_name => k_is)
    (case aF_is_document => k_is)
    (case l_is_document => k_is)
    (case c_is_document => k_is)
    (case k_is_document => k_is)
    (case aF_check_document => k_is)
    (case l_check_document => k_is)
    (case c_check_document => k_is)
    (case k_check_document => k_is)
    (case aF_parts_in => k_is)
    (case l_parts_in => k_is)
    (case c_parts_in => k_is)
    (case k_parts_in => k_is)
    (case aF_size => k_is)
    (case l_size => k_is)
    (case c_size => k_is)
    (case k_size => k_is)
    (case aF__law_pot_of => k_is)
    (case l__law_pot_of => k_is)
    (case c__law_pot_of => k_is)
    (case k__law_pot_of => k_is)
    (case aF__law_take => k_is)
    (case l__law_take => k_is)
    (case c__law_take => k_is)
    (case k__law_take => k_is)
    (case aF__law_of => k_is)
    (case l__law_of => k_is)
    (case c__law_of => k_is)
    (case k__law_of => k_is)
    (case aF__law_made => k_is)
    (case l__law_made => k_is)
    (case c__law_made => k_is)
    (case k__law_made => k_is)
    (case aF__law_marks => k_is)
    (case l__law_marks => k_is)
    (case c__law_marks => k_is)
    (case k__law_marks => k_is)
    (case aF__law_thing => k_is)
    (case l__law_thing => k_is)
    (case c__law_thing => k_is)
    (case k__law_thing => k_is)
    (case aF__law_right => k_is)
    (case l__law_right => k_is)
    (case c__law_right => k_is)
    (case k__law_right => k_is)
    (case aF_law => k_is)
    (case l_law => k_is)
    (case c_law => k_is)
    (case k_law => k_is)
    (case hb => exact fun s v => .of_eq rfl)
    (case hn => kernel_rfl)
    (case ha => kernel_rfl)
    (case hu => kernel_rfl)
    (case he => kernel_rfl)
    (case hx => kernel_rfl))
