import PyProof.Rows.All
import Wide.All
import OpenK.AllK
import Wide.FinOn
import HandS.ForMost
import HandS.ForExc
import HandS.IsInst
import HandS.ExcInit
import HandS.ExcField
import HandS.ExcIs
import KE.KExcSuper
import HandS.Walk
import HandS.Iter
import KE.KDictCopyH
import HandS.Lambda
import HandS.EndTab
import HandS.DictComp
import HandS.ListItems
import HandS.Style
import HandS.SetFor
import HandS.Wide
import HandS.WordsDict
import HandS.More
import PySem.Challenge.RW_tagless_k00_documents_told
section
set_option Elab.async false
set_option linter.all false
set_option maxRecDepth 100000
set_option maxHeartbeats 4000000
/-! Tg, part A: promises of defs where no repr runs around (so that repr can be asked), and the law's end over them. -/
namespace Tg
open PySem PySem.Spec PyProof.Rows L2

structure FnG (P : Program) (w : World) (K : PySem.W.Frag) (mg : Str → Option Value) (base : Heap) (CX : CXT) (k : Nat) (f : Addr) (fd : FuncData) (ps : List Str) (sp : Sp) : Prop where
  len : ∀ vs H Q E, sp vs H Q E → vs.length = ps.length
  go : ∀ (A : Around) (fr : List Env) (s : Shared) (H : Hp) (ag : Args) (us : List Value) (vs : List V) (Q : VK) (E : XK),
    A.guards = some [] → Room k A → Env0 P w K mg base A fr s H → BindsTo s fd ag (ps.zip us) → Vals vs us → sp vs H Q E →
      codeAny (model P w) A (.call (.ref f) ag) (CR CX fr P w H s Q E) s

section
variable {P : Program} {w : World} {K : PySem.W.Frag} {mg : Str → Option Value} {base : Heap} {CX : CXT} {k : Nat} {f : Addr} {fd : FuncData} {ps : List Str} {sp : Sp}

theorem FnG.of (F : FnOk P w K mg base CX k f fd ps sp) : FnG P w K mg base CX k f fd ps sp :=
  ⟨F.len, fun A fr s H ag us vs Q E _ => F.run A fr s H ag us vs Q E⟩

theorem FnG.mono {j : Nat} (F : FnG P w K mg base CX j f fd ps sp) (h : j ≤ k) : FnG P w K mg base CX k f fd ps sp :=
  ⟨F.len, fun A fr s H ag us vs Q E g r => F.go A fr s H ag us vs Q E g (r.mono h)⟩

theorem guards_deeper (A : Around) (env : Env) : (A.deeper env).guards = A.guards := rfl
end

section
variable {P : Program} {w : World} {K : PySem.W.Frag} {mg : Str → Option Value} {base : Heap}

/-- a def by its body -/
theorem fnG_of {CX : CXT} {k : Nat} {f : Addr} {nm ql : Str} {pa : Arguments} {bd : List Stmt} {sc : Scope} {dV kV dc pm cd ct oc : Value} {an od : Option Addr} {sl : Array (Option Value)} {N ps : List Str} {sp : Sp}
    (lk : K.lookup f = some ⟨oc, od, .func (PySem.W.fnOf nm ql pa bd sc dV kV dc pm an cd ct), sl⟩) (hcd : PySem.W.codeIn K cd ql = true) (S : FnScope N ps sc) (len : ∀ vs H Q E, sp vs H Q E → vs.length = ps.length)
    (hb : ∀ (A : Around) (fr : List Env) (s : Shared) (H : Hp) (vs : List V) (Q : VK) (E : XK), A.guards = some [] → Room k (A.deeper (envOfC ql sc s.heap.objs.size f cd)) → sp vs H Q E →
      ∃ t, PSs (cxOf CX P w K mg base N ql sc f cd A fr s H E) bd t ∧ t { nx := fun _ H' => Q .non H', rt := Q } (start N vs) H) :
    FnG P w K mg base CX (k + 1) f (PySem.W.fnOf nm ql pa bd sc dV kV dc pm an cd ct) ps sp := by
  constructor
  · exact len
  intro A fr s H ag us vs Q E hgd room en bnd rel hsp
  have hlen : vs.length = ps.length := len _ _ _ _ hsp
  have stays : ∀ b o, base.get? b = some o → s.heap.get? b = some o := fun b o e => (en.bs b o e).1
  have inK : K.In s.heap := en.mod.kin.keeps stays
  have noLim : s.heap.NoLimit := en.mod.nolimit.keeps stays
  have kinds : ∀ y ∈ ps.zip us, sc.names.lookup y.1 = some .local ∨ (sc.names.lookup y.1 = some .cell ∧ ((cellsFrom (s.heap.objs.size + 1) sc.names []).lookup y.1).isSome = true) := by
    intro y hy
    have hm : y.1 ∈ ps := (List.of_mem_zip (show (y.1, y.2) ∈ ps.zip us from hy)).1
    cases S.par y.1 hm with
    | inl q => exact .inl q
    | inr q => exact .inr ⟨q, PySem.W.cellsFrom_some _ _ _ (.inl q)⟩
  apply codeAny_call_function room.depth (inK _ _ lk) rfl S.co S.gen rfl (PySem.W.codeRec_of inK hcd)
  apply bnd
  apply wpAny_newFunctionEnv_cells S.kind kinds
  intro env he s1 x
  subst he
  constructor
  · exact noLim.keeps x.toInCall.keep
  apply codeAny_func
  obtain ⟨t, ht, hq⟩ := hb A fr s H vs Q E hgd (room.deeper _) hsp
  have inv : Inv (cxOf CX P w K mg base N ql sc f cd A fr s H E) [] (start N vs) H s1 := inv_start S room.hd en hlen rel x
  have ran := ht.run [] s1 (start N vs) H _ inv hq
  apply wpAny_mono ran
  · intro fl s' hs
    have ends : ∀ {σ' : L2.St} {H' : Hp} {v : V} {u : Value}, Inv (cxOf CX P w K mg base N ql sc f cd A fr s H E) [] σ' H' s' → RelV v u → Q v H' → CE fr P w H s Q u s' :=
      fun {_ H' v _} J rv q => ⟨v, H', J.os, J.bare, J.base, J.hok, rv, q⟩
    match fl, hs with
    | .ret u, ⟨v, σ', H', J, rv, q⟩ => exact ends J rv q
    | .next, ⟨σ', H', J, q⟩ => exact ends (v := V.non) (u := Value.none) J rfl q
    | .brk, ⟨_, _, _, q⟩ => exact q.elim
    | .cont, ⟨_, _, _, q⟩ => exact q.elim
  · exact fun e s' hs => hs

/-- .. of the text's own def, from which nothing is raised -/
theorem funG {x ql : Str} {st : Stmt} {f : Addr} {fd : FuncData} {N ps : List Str} {k : Nat} {sp : Sp} (F : Fun K x ql st f fd) (S : FnScope N ps (defScope st)) (len : ∀ vs H Q E, sp vs H Q E → vs.length = ps.length)
    (hb : ∀ (cd : Value) (A : Around) (fr : List Env) (s : Shared) (H : Hp) (vs : List V) (Q : VK) (E : XK), A.guards = some [] → Room k (A.deeper (envOfC ql (defScope st) s.heap.objs.size f cd)) → sp vs H Q E →
      ∃ t, PSs (cxOf CX0 P w K mg base N ql (defScope st) f cd A fr s H E).nox (defBody st) t ∧ t { nx := fun _ H' => Q .non H', rt := Q } (start N vs) H) : FnG P w K mg base CX0 (k + 1) f fd ps sp := by
  obtain ⟨_, _, _, _, _, _, cd, _, _, rfl, lk, hc⟩ := F.ex
  exact fnG_of lk hc S len fun A fr s H vs Q E hg hr hsp => by
    obtain ⟨t, h, q⟩ := hb cd A fr s H vs Q E hg hr hsp
    exact ⟨t, h.nox, q⟩
end

section
variable {X : Cx} {CX : CXT} {k : Nat} {f : Addr} {fd : FuncData} {ps : List Str} {sp : Sp} {dvs : List V} {ds : List Value} {E : XK} {x : Str} {p pos : Pos} {e : Expr} {es : List Expr} {t : TA}
/-- f(e, ..), such a def -/
theorem pe_callG (F : FnG X.prog X.w X.K X.mg X.base CX k f fd ps sp) (hgd : X.A.guards = some []) (hr : Room k X.A) (hg : Gl X x) (hm : X.mg x = some (.ref f)) (hk : PySem.W.keepIn X.K (.ref f) = true) (hb : Binds X.K fd ps ds) (hd : Vals dvs ds)
    (hx : Passes CX X E) (ha : PA X (e :: es) t) (hdb : (x == ("__debug__" : Str)) = false := by decide)
    (he : starEach (e :: es) X.env = (false, eval e X.env) :: starEach es X.env := by rfl) (hpl : (backTo pos (starEach es X.env)).any (·.1) = false := by rfl) :
    PE X (.Call (.Name x p) (e :: es) [] pos) (tCall sp dvs E t) := by
  constructor
  intro pins s σ H Q I h
  apply wpAny_Call_Name_kw
  apply ld_glob I hg hm _ hdb
  refine PySem.W.callWith_K (h₀ := X.base) I.ok.mod.kin hk (thn (ha.run pos pins s σ H _ I h) ?_) he hpl
  rintro us s1 ⟨vs, H1, I1, rel, q⟩
  refine ⟨I1.kIn, wpAny_call ?_⟩
  have rel2 : Vals (vs ++ dvs) (us ++ ds) := rel.append hd
  have hl : (us ++ ds).length = ps.length := (rel2.length).symm.trans (F.len _ _ _ _ q)
  have ran := F.go X.A X.stack s1 H1 ⟨us, []⟩ (us ++ ds) (vs ++ dvs) Q E hgd hr I1.env0 (hb s1 us I1.kIn hl) rel2 q
  refine codeAny_mono ran ?_
  intro r s' hq
  match r, hq with
  | .error er, hq => exact hx pins σ H1 s1 er s' I1 hq
  | .ok (.ret u), hq => exact I1.after hq
  | .ok .next, hq => exact False.elim hq
  | .ok .brk, hq => exact False.elim hq
  | .ok .cont, hq => exact False.elim hq
end

/-- the law's def over the heap behind the top -/
theorem lawG {P : Program} {w : World} {K : PySem.W.Frag} {mg mb : Str → Option Value} {CX : CXT} {k : Nat} {fa a : Addr} {fd : FuncData} {x : Str} {sp : Sp} {s₁ : Shared} {us : List Value} {ns : List Int}
    (inK : K.In s₁.heap) (gns : s₁.heap.Ns mainGlobals mg) (bns : s₁.heap.Ns builtinsNs mb) (bbt : ∀ x : Str, x ≠ "__name__" → mb x = bootBuiltins x) (lim : s₁.heap.NoLimit) (gens : s₁.gens = #[])
    (ha : s₁.heap.get? a = some { cls := .type "list", data := .seq us.toArray }) (hi : IntsAre us ns) (hl : ns.length ≤ sizeLine) (room : Room k callerA)
    (F : ∀ base : Heap, K.In base → base.Ns mainGlobals mg → FnG P w K mg base CX k fa fd [x] sp) (bnd : ∀ (s : Shared) (u : Value), BindsTo s fd ⟨[u], []⟩ [(x, u)])
    (hsp : ∀ H : Hp, Only H → SqL K H a (ns.map V.int) → sp [.ref a] H (fun v _ => v = .bl true) fun _ _ _ => False)
    (noX : ∀ H e s', CX [] H s₁ (fun _ _ _ => False) e s' → False) :
    codeAny (model P w) callerA (.call (.ref fa) ⟨[.ref a], []⟩) (fun r s' => r = .ok (.ret (.bool true)) ∧ OldK s₁.heap s'.heap ∧ s'.os = s₁.os ∧ AllBare s'.gens) s₁ := by
  have relI : Vals (ns.map V.int) us := vals_ints hi
  have lenI := hi.length
  suffices main : ∀ H : Hp, Only H → SqL K H a (ns.map V.int) → HOk P w H s₁.heap → (∀ b u, H b = some u → b = a) → (∀ u, H a = some u → K.lookup a = none) →
      codeAny (model P w) callerA (.call (.ref fa) ⟨[.ref a], []⟩) (fun r s' => r = .ok (.ret (.bool true)) ∧ OldK s₁.heap s'.heap ∧ s'.os = s₁.os ∧ AllBare s'.gens) s₁ by
    cases known : K.lookup a with
    | none =>
      let o : Obj := { cls := .type "list", data := .seq us.toArray }
      let H : Hp := fun b => if b = a then some (.frz o (.lst (ns.map V.int))) else none
      have Ha : H a = some (.frz o (.lst (ns.map V.int))) := if_pos rfl
      have Hn : ∀ b, b ≠ a → H b = none := fun b hb => if_neg hb
      apply main H
      · intro b
        by_cases hb : b = a
        · subst hb; exact .inr ⟨_, _, Ha⟩
        · exact .inl (Hn b hb)
      · exact .inl (.inr ⟨o, Ha⟩)
      · intro b u z
        by_cases hb : b = a
        · subst hb
          rw [Ha] at z
          cases z
          exact ⟨ha, by rw [List.length_map]; exact hl, us, _, relI, ha⟩
        · rw [Hn b hb] at z
          cases z
      · intro b u z
        by_cases hb : b = a
        · exact hb
        · rw [Hn b hb] at z
          cases z
      · intro _ _
        exact known
    | some o =>
      have e := inK a o known
      rw [ha] at e
      cases e
      apply main fun _ => none
      · exact fun _ => .inl rfl
      · exact .inr ⟨_, us.toArray, _, known, rfl, rfl, rfl, by rw [List.size_toArray, lenI]; exact hl, by simpa using relI⟩
      · intro b u z; exact nomatch z
      · intro b u z; exact nomatch z
      · intro u z; exact nomatch z
  intro H only sq hok atA noK
  have kept : ∀ {b : Addr} {o : Obj}, s₁.heap.get? b = some o → H b = none → (hidT s₁.heap H).get? b = some o := fun e n => hidT_get e n
  have dictFree : ∀ {b : Addr} {o : Obj} {es : Array DictEntry} {ep : Nat}, s₁.heap.get? b = some o → o.data = .dict es ep → H b = none := by
    intro b o es ep e d
    cases q : H b with
    | none => rfl
    | some u =>
      have hb := atA b u q
      subst hb
      rw [ha] at e
      cases e
      exact nomatch (show Data.seq us.toArray _ = Data.dict es ep from d)
  have nsOf : ∀ {b : Addr} {m : Str → Option Value}, s₁.heap.Ns b m → (hidT s₁.heap H).Ns b m := by
    rintro b m ⟨o, es, ep, e, d, r⟩
    exact ⟨o, es, ep, kept e (dictFree e d), d, r⟩
  have inB : K.In (hidT s₁.heap H) := by
    intro b o e
    apply kept (inK b o e)
    cases q : H b with
    | none => rfl
    | some u =>
      have hb := atA b u q
      subst hb
      rw [noK u q] at e
      cases e
  obtain ⟨mc, l1, l2⟩ := lim
  have md : Mod K mg (hidT s₁.heap H) := ⟨inB, nsOf gns, ⟨mb, nsOf bns, bbt⟩, ⟨mc, nsOf l1, l2⟩⟩
  have none0 : ∀ b : Addr, b ∉ ([] : List Addr) := fun b => List.not_mem_nil
  have en : Env0 P w K mg (hidT s₁.heap H) callerA [] s₁ H :=
    ⟨rfl, md, fun b o e => of_hidT e, Nat.le_of_eq (hidT_size _ _), trivial, fun b hb => absurd hb (none0 b), hok, .of_eq gens⟩
  have ran := (F _ inB (nsOf gns)).go callerA [] s₁ H ⟨[.ref a], []⟩ [.ref a] [.ref a] _ _ rfl room en (bnd s₁ (.ref a)) (.cons rfl .nil) (hsp H only sq)
  refine codeAny_mono ran ?_
  intro r s' h
  match r, h with
  | .error er, h => exact (noX H er s' h).elim
  | .ok .next, h => exact False.elim h
  | .ok .brk, h => exact False.elim h
  | .ok .cont, h => exact False.elim h
  | .ok (.ret u), ⟨v, H', hos, bare, un, hok', rv, q⟩ =>
    have q' : v = .bl true := q
    subst q'
    have ru : u = Value.bool true := rv
    subst ru
    refine ⟨rfl, OldK.of_keep fun b o e => ?_, hos, bare⟩
    rcases only b with z | ⟨ob, xs, z⟩
    · exact un.keep b o e z (none0 b) (none0 b)
    · obtain ⟨e1, _⟩ := hok b _ z
      obtain ⟨e2, _⟩ := hok' b _ (un.frzs b ob _ z)
      exact e2.trans (e1.symm.trans e)

/-- the goal that k_head leaves -/
theorem walkG {l : PySem.W.OpenLaw} {n k : Nat} {q : Program} {loose : List Str} {XP : (Str → Option Value) → Heap → Prop} {YP : World → Heap → Prop} {d : DefRec} {K : Params → PySem.W.Frag} {CX : World → CXT} {sp : World → Sp} {x : Str}
    (hn : l.most = some n) (hz : n ≤ sizeLine) (hdf : d.params.defaults = []) (room : Room k callerA) (hY : ∀ (w : World) (h : Heap), YP w h → (K w.params).In h)
    (F : ∀ (w : World) (mg : Str → Option Value) (fa : Addr) (h : Heap), (K w.params).In h → h.Ns mainGlobals mg → mg d.name = some (.ref fa) →
      ∃ fd : FuncData, (∀ (s : Shared) (u : Value), BindsTo s fd ⟨[u], []⟩ [(x, u)]) ∧ ∀ base : Heap, (K w.params).In base → base.Ns mainGlobals mg → FnG l.prog w (K w.params) mg base (CX w) k fa fd [x] (sp w))
    (hsp : ∀ (w : World) (H : Hp) (a : Addr) (ns : List Int), ns.length ≤ n → Only H → SqL (K w.params) H a (ns.map V.int) → sp w [.ref a] H (fun v _ => v = .bl true) fun _ _ _ => False)
    (noX : ∀ (w : World) (H : Hp) (s : Shared) (e : Value) (s' : Shared), CX w [] H s (fun _ _ _ => False) e s' → False) :
    PySem.W.WalkO q loose XP YP l.row.toRowW d [] (fun f vs => PySem.call f vs) := by
  apply Att.attach_call hn hdf
  intro w s₀ s₁ mg mb fa o pm cd doc a vs ns G Y ho hd hcd hmg hobj hints hlen hg
  have inK := hY w _ Y
  obtain ⟨fd, bnd, hF⟩ := F w mg fa _ inK G.T.g hmg
  exact lawG inK G.T.g G.T.b G.T.builtins G.T.nolimit hg hobj hints (Nat.le_trans hlen hz) room hF bnd (fun H only sq => hsp w H a ns hlen only sq) fun H e s' => noX w H s₁ e s'
end Tg
end
section
set_option Elab.async false
set_option linter.all false
set_option maxRecDepth 100000
set_option maxHeartbeats 4000000
/-! Tg, part B: data that stands still (Rp), and repr of it. -/
namespace Tg
open PySem PySem.Spec PyProof.Rows L2

def kD : Key → PyData
  | .inl i => .int i
  | .inr x => .str x

/-- the hash of None -/
def hNone : Int := reduceHash 0xFCA86420
/-- a dict of None and 1 -/
def NonO (o : Obj) : Prop := o.ExactDict ∧ ∃ (ep : Nat) (t : Tok), o.data = .dict #[⟨hNone, .none, .int 1 t⟩] ep
/-- the object at a is o -/
def NDh (a : Addr) (o : Obj) : HO := .ext fun h => h.get? a = some o
mutual
/-- the value v is the data d, in lists and dicts that are locked for good -/
def Rp (H : Hp) : PyData → V → Prop
  | .none, v => v = .non
  | .bool b, v => v = .bl b
  | .int i, v => v = .int i
  | .str x, v => v = .str x
  | .list ds, v => ∃ a o xs, v = .ref a ∧ H a = some (.frz o (.lst xs)) ∧ RpL H ds xs
  | .tuple ds, v => ∃ a xs, v = .ref a ∧ H a = some (.tup xs) ∧ RpL H ds xs
  | .dict kds, v => (∃ a o kvs, v = .ref a ∧ H a = some (.frz o (.dK kvs)) ∧ RpD H kds kvs) ∨ (kds = [(.none, .int 1)] ∧ ∃ a o, v = .ref a ∧ H a = some (.frz o (NDh a o)) ∧ NonO o ∧ (a == sysModules) = false)
def RpL (H : Hp) : List PyData → List V → Prop
  | [], xs => xs = []
  | d :: ds, xs => ∃ x r, xs = x :: r ∧ Rp H d x ∧ RpL H ds r
def RpD (H : Hp) : List (PyData × PyData) → List (Key × V) → Prop
  | [], kvs => kvs = []
  | (k, d) :: kds, kvs => ∃ ky v r, kvs = (ky, v) :: r ∧ k = kD ky ∧ Rp H d v ∧ RpD H kds r
end

/-- what is locked, and tuples, stand as they stood -/
structure Kp (H H' : Hp) : Prop where
  fz : ∀ b o u, H b = some (.frz o u) → H' b = some (.frz o u)
  tu : ∀ b xs, H b = some (.tup xs) → H' b = some (.tup xs)
theorem Kp.refl (H : Hp) : Kp H H := ⟨fun _ _ _ e => e, fun _ _ e => e⟩
theorem Kp.trans {H H1 H2 : Hp} (a : Kp H H1) (b : Kp H1 H2) : Kp H H2 := ⟨fun c o u e => b.fz c o u (a.fz c o u e), fun c xs e => b.tu c xs (a.tu c xs e)⟩
theorem Kp.same {H H' : Hp} (s : Same H H') : Kp H H' := ⟨fun b o u e => s b _ e, fun b xs e => s b _ e⟩
theorem Kp.new {H : Hp} {p : Addr} {o : HO} (n : H p = none) : Kp H (upd H p o) :=
  ⟨fun b ob u e => by rw [upd_ne (ne_of_none e n)]; exact e, fun b xs e => by rw [upd_ne (ne_of_none e n)]; exact e⟩
theorem Kp.put {H : Hp} {p : Addr} {o u : HO} (h : H p = some u) (hf : ∀ ob w, u ≠ .frz ob w) (ht : ∀ xs, u ≠ .tup xs) : Kp H (upd H p o) :=
  ⟨fun b ob w e => by rw [upd_ne (ne_of e h (fun z => hf ob w z.symm))]; exact e, fun b xs e => by rw [upd_ne (ne_of e h (fun z => ht xs z.symm))]; exact e⟩

mutual
theorem Rp.keep {H H' : Hp} (k : Kp H H') : ∀ (d : PyData) (v : V), Rp H d v → Rp H' d v
  | .none, v, h => by simpa only [Rp] using h
  | .bool b, v, h => by simpa only [Rp] using h
  | .int i, v, h => by simpa only [Rp] using h
  | .str x, v, h => by simpa only [Rp] using h
  | .list ds, v, h => by
    simp only [Rp] at h ⊢
    obtain ⟨a, o, xs, e, ha, r⟩ := h
    exact ⟨a, o, xs, e, k.fz _ _ _ ha, RpL.keep k ds xs r⟩
  | .tuple ds, v, h => by
    simp only [Rp] at h ⊢
    obtain ⟨a, xs, e, ha, r⟩ := h
    exact ⟨a, xs, e, k.tu _ _ ha, RpL.keep k ds xs r⟩
  | .dict kds, v, h => by
    simp only [Rp] at h ⊢
    rcases h with ⟨a, o, kvs, e, ha, r⟩ | ⟨e0, a, o, e, ha, n⟩
    · exact .inl ⟨a, o, kvs, e, k.fz _ _ _ ha, RpD.keep k kds kvs r⟩
    · exact .inr ⟨e0, a, o, e, k.fz _ _ _ ha, n⟩
theorem RpL.keep {H H' : Hp} (k : Kp H H') : ∀ (ds : List PyData) (xs : List V), RpL H ds xs → RpL H' ds xs
  | [], xs, h => by simpa only [RpL] using h
  | d :: ds, xs, h => by
    simp only [RpL] at h ⊢
    obtain ⟨x, r, e, h1, h2⟩ := h
    exact ⟨x, r, e, Rp.keep k d x h1, RpL.keep k ds r h2⟩
theorem RpD.keep {H H' : Hp} (k : Kp H H') : ∀ (kds : List (PyData × PyData)) (kvs : List (Key × V)), RpD H kds kvs → RpD H' kds kvs
  | [], xs, h => by simpa only [RpD] using h
  | (ky, d) :: ds, xs, h => by
    simp only [RpD] at h ⊢
    obtain ⟨kk, v, r, e, h0, h1, h2⟩ := h
    exact ⟨kk, v, r, e, h0, Rp.keep k d v h1, RpD.keep k ds r h2⟩
end


mutual
/-- a value is at most one data -/
theorem Rp.one {H : Hp} : ∀ (d e : PyData) (v : V), Rp H d v → Rp H e v → d = e
  | .none, e, v, h, k => by
    simp only [Rp] at h; subst h
    cases e <;> simp [Rp] at k ⊢
  | .bool b, e, v, h, k => by
    simp only [Rp] at h; subst h
    cases e <;> simp [Rp] at k ⊢
    exact k
  | .int b, e, v, h, k => by
    simp only [Rp] at h; subst h
    cases e <;> simp [Rp] at k ⊢
    exact k
  | .str b, e, v, h, k => by
    simp only [Rp] at h; subst h
    cases e <;> simp [Rp] at k ⊢
    exact k
  | .list ds, e, v, h, k => by
    simp only [Rp] at h
    obtain ⟨a, o, xs, rfl, ha, r⟩ := h
    cases e with
    | list es =>
      simp only [Rp] at k
      obtain ⟨a', o', xs', e1, ha', r'⟩ := k
      cases e1
      rw [ha] at ha'
      cases ha'
      rw [RpL.one ds es xs r r']
    | tuple es =>
      simp only [Rp] at k
      obtain ⟨a', xs', e1, ha', r'⟩ := k
      cases e1
      rw [ha] at ha'
      cases ha'
    | dict es =>
      simp only [Rp] at k
      rcases k with ⟨a', o', xs', e1, ha', r'⟩ | ⟨_, a', o', e1, ha', _⟩ <;> cases e1 <;> rw [ha] at ha' <;> cases ha'
    | _ => simp [Rp] at k
  | .tuple ds, e, v, h, k => by
    simp only [Rp] at h
    obtain ⟨a, xs, rfl, ha, r⟩ := h
    cases e with
    | list es =>
      simp only [Rp] at k
      obtain ⟨a', o', xs', e1, ha', r'⟩ := k
      cases e1
      rw [ha] at ha'
      cases ha'
    | tuple es =>
      simp only [Rp] at k
      obtain ⟨a', xs', e1, ha', r'⟩ := k
      cases e1
      rw [ha] at ha'
      cases ha'
      rw [RpL.one ds es xs r r']
    | dict es =>
      simp only [Rp] at k
      rcases k with ⟨a', o', xs', e1, ha', r'⟩ | ⟨_, a', o', e1, ha', _⟩ <;> cases e1 <;> rw [ha] at ha' <;> cases ha'
    | _ => simp [Rp] at k
  | .dict ds, e, v, h, k => by
    simp only [Rp] at h
    rcases h with ⟨a, o, xs, rfl, ha, r⟩ | ⟨rfl, a, o, rfl, ha, r⟩
    · cases e with
      | list es =>
        simp only [Rp] at k
        obtain ⟨a', o', xs', e1, ha', r'⟩ := k
        cases e1
        rw [ha] at ha'
        cases ha'
      | tuple es =>
        simp only [Rp] at k
        obtain ⟨a', xs', e1, ha', r'⟩ := k
        cases e1
        rw [ha] at ha'
        cases ha'
      | dict es =>
        simp only [Rp] at k
        rcases k with ⟨a', o', xs', e1, ha', r'⟩ | ⟨_, a', o', e1, ha', _⟩
        · cases e1
          rw [ha] at ha'
          cases ha'
          rw [RpD.one ds es xs r r']
        · cases e1
          rw [ha] at ha'
          cases ha'
      | _ => simp [Rp] at k
    · cases e with
      | list es =>
        simp only [Rp] at k
        obtain ⟨a', o', xs', e1, ha', r'⟩ := k
        cases e1
        rw [ha] at ha'
        cases ha'
      | tuple es =>
        simp only [Rp] at k
        obtain ⟨a', xs', e1, ha', r'⟩ := k
        cases e1
        rw [ha] at ha'
        cases ha'
      | dict es =>
        simp only [Rp] at k
        rcases k with ⟨a', o', xs', e1, ha', r'⟩ | ⟨rfl, a', o', e1, ha', _⟩
        · cases e1
          rw [ha] at ha'
          cases ha'
        · rfl
      | _ => simp [Rp] at k
theorem RpL.one {H : Hp} : ∀ (ds es : List PyData) (xs : List V), RpL H ds xs → RpL H es xs → ds = es
  | [], es, xs, h, k => by
    simp only [RpL] at h; subst h
    cases es with
    | nil => rfl
    | cons e es => simp [RpL] at k
  | d :: ds, es, xs, h, k => by
    simp only [RpL] at h
    obtain ⟨x, r, rfl, h1, h2⟩ := h
    cases es with
    | nil => simp [RpL] at k
    | cons e es =>
      simp only [RpL] at k
      obtain ⟨x', r', e1, k1, k2⟩ := k
      cases e1
      rw [Rp.one d e x h1 k1, RpL.one ds es r h2 k2]
theorem RpD.one {H : Hp} : ∀ (ds es : List (PyData × PyData)) (xs : List (Key × V)), RpD H ds xs → RpD H es xs → ds = es
  | [], es, xs, h, k => by
    simp only [RpD] at h; subst h
    cases es with
    | nil => rfl
    | cons e es => simp [RpD] at k
  | (ky, d) :: ds, es, xs, h, k => by
    simp only [RpD] at h
    obtain ⟨kk, x, r, rfl, h0, h1, h2⟩ := h
    cases es with
    | nil => simp [RpD] at k
    | cons e es =>
      obtain ⟨ky', e⟩ := e
      simp only [RpD] at k
      obtain ⟨kk', x', r', e1, k0, k1, k2⟩ := k
      cases e1
      rw [h0, k0, Rp.one d e x h1 k1, RpD.one ds es r h2 k2]
end

/-- each of these places holds data that is no deeper -/
def Low (H : Hp) (n : Nat) (bs : List Addr) : Prop := ∀ b ∈ bs, ∃ d, Rp H d (.ref b) ∧ d.depth ≤ n
theorem Low.mono {H : Hp} {n m : Nat} {bs : List Addr} (h : Low H n bs) (k : n ≤ m) : Low H m bs := fun b hb => let ⟨d, r, l⟩ := h b hb; ⟨d, r, Nat.le_trans l k⟩
theorem Low.both {H : Hp} {n : Nat} {bs cs : List Addr} (h : Low H n bs) (k : Low H n cs) : Low H n (bs ++ cs) := fun b hb => (List.mem_append.mp hb).elim (h b) (k b)
theorem Low.top {H : Hp} {n : Nat} {a : Addr} {d : PyData} {bs : List Addr} (h : Low H n bs) (r : Rp H d (.ref a)) (k : n < d.depth) : a ∉ bs ∧ Low H d.depth (a :: bs) := by
  constructor
  · intro hm
    obtain ⟨d', r', l⟩ := h a hm
    rw [Rp.one d d' _ r r'] at k
    omega
  · intro b hb
    rcases List.mem_cons.mp hb with rfl | hb
    · exact ⟨d, r, Nat.le_refl _⟩
    · exact (h.mono (Nat.le_of_lt k)) b hb
theorem Low.nil {H : Hp} {n : Nat} : Low H n [] := fun b hb => absurd hb List.not_mem_nil

section
variable {P : Program} {w : World} {H : Hp} {h : Heap}
theorem lst_at (ok : HOk P w H h) {a : Addr} {o : Obj} {xs : List V} (e : H a = some (.frz o (.lst xs))) : ∃ (its : List Value) (n : Nat), Vals xs its ∧ h.get? a = some { cls := .type "list", data := .seq its.toArray n } := by
  obtain ⟨_, _, its, n, r, q⟩ := ok a _ e
  exact ⟨its, n, r, q⟩
theorem tup_at (ok : HOk P w H h) {a : Addr} {xs : List V} (e : H a = some (.tup xs)) : ∃ (its : List Value) (o : Obj) (n : Nat), Vals xs its ∧ h.get? a = some o ∧ o.cls = .type "tuple" ∧ o.data = .seq its.toArray n := by
  obtain ⟨_, its, r, o, e1, e2, n, e3⟩ := ok a _ e
  exact ⟨its, o, n, r, e1, e2, e3⟩
theorem dct_at (ok : HOk P w H h) {a : Addr} {o : Obj} {kvs : List (Key × V)} (e : H a = some (.frz o (.dK kvs))) : (a == sysModules) = false ∧ ∃ (kus : List (Key × Value)) (ob : Obj) (es : Array DictEntry) (n : Nat),
    KV kvs kus ∧ h.get? a = some ob ∧ ob.cls = .type "dict" ∧ ob.data = .dict es n ∧ Pairs (mixKind P w) es.toList kus := by
  obtain ⟨_, _, sm, kus, r, ob, es, n, e1, e2, e3, _, e5, _⟩ := ok a _ e
  exact ⟨sm, kus, ob, es, n, r, e1, e2.1, e3, e5⟩
theorem key_repr {ky : Key} {u : Value} {bs : List Addr} {n : Nat} (e : (mixKind P w).is ky u = true) (hs : (kD ky).showable = true) (hz : (kD ky).shown.length ≤ sizeLine) : ReprK P w bs h n u (kD ky).shown := by
  rcases keyIs_shape (k := ky) (v := u) e with ⟨i, t, rfl, rfl⟩ | ⟨x, t, rfl, rfl⟩
  · simp only [kD, PyData.shown]
    exact .of_is (ReprIs.int t (by simpa [kD, PyData.showable] using hs)) _ _ _
  · simp only [kD, PyData.shown] at hz ⊢
    exact .of_is (ReprIs.str x t hz) _ _ _

theorem non_at (ok : HOk P w H h) {a : Addr} {o : Obj} (e : H a = some (.frz o (NDh a o))) (no : NonO o) : h.get? a = some o ∧ o.cls = .type "dict" ∧ ∃ (ep : Nat) (t : Tok), o.data = .dict #[⟨hNone, .none, .int 1 t⟩] ep := by
  obtain ⟨e1, _⟩ := ok a _ e
  obtain ⟨c, ep, t, dd⟩ := no
  exact ⟨e1, c.1, ep, t, dd⟩
theorem non_entries {bs : List Addr} {n : Nat} {t : Tok} : ReprEntriesK P w bs h n (#[(⟨hNone, .none, .int 1 t⟩ : DictEntry)]).toList (PyData.shownKv [(.none, .int 1)]) := by
  simp only [PyData.shownKv, PyData.shown]
  exact .cons (.of_is ReprIs.none _ _ _) (.of_is (ReprIs.int t (by decide)) _ _ _) .nil

theorem dText_mem {ps : List Str} {p : Str} (h : p ∈ ps) : p.length ≤ (dictText ps).length := dictText_mem_le h

theorem entries_more {as as' : List Addr} {d d' : Nat} (hsub : ∀ b ∈ as, b ∈ as') (hd : d ≤ d') : ∀ {l : List DictEntry} {ts : List Str}, ReprEntriesK P w as h d l ts → ReprEntriesK P w as' h d' l ts
  | _, _, .nil => .nil
  | _, _, .cons hk hv hl => .cons ((hk.more hsub).level_le hd) ((hv.more hsub).level_le hd) (entries_more hsub hd hl)

mutual
theorem Rp.repr (ok : HOk P w H h) : ∀ (d : PyData) (v : V) (u : Value), Rp H d v → RelV v u → d.showable = true → d.shown.length ≤ sizeLine →
    ∃ bs, Low H d.depth bs ∧ ReprK P w bs h d.depth u d.shown
  | .none, v, u, r, rv, _, _ => by
    simp only [Rp] at r; subst r; cases rv
    refine ⟨[], Low.nil, ?_⟩
    simp only [PyData.shown]
    exact .of_is ReprIs.none _ _ _
  | .bool b, v, u, r, rv, _, _ => by
    simp only [Rp] at r; subst r; cases rv
    refine ⟨[], Low.nil, ?_⟩
    simp only [PyData.shown]
    exact .of_is (ReprIs.bool b) _ _ _
  | .int i, v, u, r, rv, hs, _ => by
    simp only [Rp] at r; subst r
    obtain ⟨t, rfl⟩ := rv
    refine ⟨[], Low.nil, ?_⟩
    simp only [PyData.shown]
    exact .of_is (ReprIs.int t (by simpa [PyData.showable] using hs)) _ _ _
  | .str x, v, u, r, rv, _, hz => by
    simp only [Rp] at r; subst r
    obtain ⟨t, rfl⟩ := rv
    refine ⟨[], Low.nil, ?_⟩
    simp only [PyData.shown] at hz ⊢
    exact .of_is (ReprIs.str x t hz) _ _ _
  | .list ds, v, u, r, rv, hs, hz => by
    have r0 := r
    simp only [Rp] at r
    obtain ⟨a, o, xs, rfl, ha, rl⟩ := r
    cases rv
    obtain ⟨its, n, vl, e1⟩ := lst_at ok ha
    simp only [PyData.shown] at hz
    obtain ⟨bs, lo, k⟩ := RpL.repr ok ds xs its rl vl (by simpa [PyData.showable] using hs) fun t ht => Nat.le_trans (listText_mem_le ht) hz
    obtain ⟨na, lo'⟩ := lo.top r0 (by simp only [PyData.depth]; omega)
    refine ⟨a :: bs, lo', ?_⟩
    simp only [PyData.depth, PyData.shown]
    cases its with
    | nil =>
      generalize hq : PyData.shownAll ds = ts at k
      cases k
      simp only [listText_nil]
      exact ReprK.listEmpty e1 rfl rfl
    | cons x l => exact ReprK.list e1 rfl rfl na (by simpa using k.length_eq) (fun i y e => k.item i y (by simpa using e))
  | .tuple ds, v, u, r, rv, hs, hz => by
    have r0 := r
    simp only [Rp] at r
    obtain ⟨a, xs, rfl, ha, rl⟩ := r
    cases rv
    obtain ⟨its, o, n, vl, e1, e2, e3⟩ := tup_at ok ha
    simp only [PyData.shown] at hz
    obtain ⟨bs, lo, k⟩ := RpL.repr ok ds xs its rl vl (by simpa [PyData.showable] using hs) fun t ht => Nat.le_trans (tupleText_mem_le ht) hz
    obtain ⟨na, lo'⟩ := lo.top r0 (by simp only [PyData.depth]; omega)
    refine ⟨a :: bs, lo', ?_⟩
    simp only [PyData.depth, PyData.shown]
    exact ReprK.tuple e1 e2 e3 na k
  | .dict kds, v, u, r, rv, hs, hz => by
    have r0 := r
    simp only [Rp] at r
    rcases r with ⟨a, o, kvs, rfl, ha, rl⟩ | ⟨rfl, a, o, rfl, ha, no, sm⟩
    · cases rv
      obtain ⟨sm, kus, ob, es, n, kv, e1, e2, e3, pr⟩ := dct_at ok ha
      simp only [PyData.shown] at hz
      obtain ⟨bs, lo, k⟩ := RpD.repr ok kds kvs es.toList kus rl kv pr (by simpa [PyData.showable] using hs) fun t ht => Nat.le_trans (dictText_mem_le ht) hz
      obtain ⟨na, lo'⟩ := lo.top r0 (by simp only [PyData.depth]; omega)
      refine ⟨a :: bs, lo', ?_⟩
      simp only [PyData.depth, PyData.shown]
      exact ReprK.dict e1 e2 e3 sm na k
    · cases rv
      obtain ⟨e1, e2, ep, t, e3⟩ := non_at ok ha no
      refine ⟨[a], fun b hb => ?_, ?_⟩
      · cases List.mem_singleton.mp hb
        exact ⟨_, r0, Nat.le_refl _⟩
      · simp only [PyData.depth, PyData.shown]
        exact ReprK.dict e1 e2 e3 sm (by simp) non_entries
theorem RpL.repr (ok : HOk P w H h) : ∀ (ds : List PyData) (xs : List V) (us : List Value), RpL H ds xs → Vals xs us → PyData.showableAll ds = true → (∀ t ∈ PyData.shownAll ds, t.length ≤ sizeLine) →
    ∃ bs, Low H (PyData.depthAll ds) bs ∧ ReprAllK P w bs h (PyData.depthAll ds) us (PyData.shownAll ds)
  | [], xs, us, r, vl, _, _ => by
    simp only [RpL] at r; subst r
    cases vl
    exact ⟨[], Low.nil, by simp only [PyData.shownAll]; exact .nil⟩
  | d :: ds, xs, us, r, vl, hs, hz => by
    simp only [RpL] at r
    obtain ⟨x, l, rfl, r1, r2⟩ := r
    cases vl with
    | cons v1 v2 =>
      have hs' : d.showable = true ∧ PyData.showableAll ds = true := by simpa [PyData.showableAll] using hs
      obtain ⟨b1, l1, k1⟩ := Rp.repr ok d x _ r1 v1 hs'.1 (hz _ (by simp [PyData.shownAll]))
      obtain ⟨b2, l2, k2⟩ := RpL.repr ok ds l _ r2 v2 hs'.2 fun t ht => hz t (by simp [PyData.shownAll, ht])
      simp only [PyData.depthAll, PyData.shownAll]
      exact ⟨b1 ++ b2, (l1.mono (by omega)).both (l2.mono (by omega)),
        .cons ((k1.more fun b hb => List.mem_append_left _ hb).level_le (by omega)) (k2.more_le (fun b hb => List.mem_append_right _ hb) (by omega))⟩
theorem RpD.repr (ok : HOk P w H h) : ∀ (kds : List (PyData × PyData)) (kvs : List (Key × V)) (es : List DictEntry) (kus : List (Key × Value)), RpD H kds kvs → KV kvs kus → Pairs (mixKind P w) es kus →
    PyData.showableKv kds = true → (∀ t ∈ PyData.shownKv kds, t.length ≤ sizeLine) → ∃ bs, Low H (PyData.depthKv kds) bs ∧ ReprEntriesK P w bs h (PyData.depthKv kds) es (PyData.shownKv kds)
  | [], kvs, es, kus, r, kv, pr, _, _ => by
    simp only [RpD] at r; subst r
    cases kv
    cases pr
    exact ⟨[], Low.nil, by simp only [PyData.shownKv]; exact .nil⟩
  | (k, d) :: kds, kvs, es, kus, r, kv, pr, hs, hz => by
    simp only [RpD] at r
    obtain ⟨ky, x, l, rfl, rfl, r1, r2⟩ := r
    cases kv with
    | @cons _ q _ kus' v1 v2 =>
      obtain ⟨e1, rv⟩ := v1
      cases pr with
      | @cons en _ es' _ p1 p2 p3 =>
        have hs' : ((kD ky).showable = true ∧ d.showable = true) ∧ PyData.showableKv kds = true := by simpa [PyData.showableKv] using hs
        have hz0 : ((kD ky).shown ++ ": " ++ d.shown).length ≤ sizeLine := hz _ (by simp [PyData.shownKv])
        rw [strLen_append, strLen_append] at hz0
        obtain ⟨b1, l1, k1⟩ := Rp.repr ok d x en.val r1 (by rw [p2]; exact rv) hs'.1.2 (by omega)
        obtain ⟨b2, l2, k2⟩ := RpD.repr ok kds l es' kus' r2 v2 p3 hs'.2 fun t ht => hz t (by simp [PyData.shownKv, ht])
        have k0 : ReprK P w (b1 ++ b2) h (PyData.depthKv ((kD ky, d) :: kds)) en.key (kD ky).shown := key_repr (by rw [← e1] at p1; exact p1) hs'.1.1 (by omega)
        simp only [PyData.depthKv, PyData.shownKv] at k0 ⊢
        refine ⟨b1 ++ b2, (l1.mono (by omega)).both (l2.mono (by omega)), .cons k0 ((k1.more fun b hb => List.mem_append_left _ hb).level_le (by omega)) ?_⟩
        exact entries_more (fun b hb => List.mem_append_right _ hb) (by omega) k2
end
end
end Tg
end
section
set_option Elab.async false
set_option linter.all false
set_option maxRecDepth 100000
set_option maxHeartbeats 4000000
/-! Tg, part C: rules: repr, locking for good, ** of great ints. -/
namespace Tg
open PySem PySem.Spec PyProof.Rows L2

section
variable {X : Cx}
def rRepr (A : Around) : List V → Hp → VK → Prop := fun xs H Q => ∃ (d : PyData) (v : V), xs = [v] ∧ Rp H d v ∧ d.showable = true ∧ d.shown.length ≤ sizeLine ∧ A.units + d.depth + 2 < cLine ∧ Q (.str d.shown) H
/-- repr(e) of data -/
theorem call_reprD (hg : X.A.guards = some []) : CallR X (.builtin "repr") (rRepr X.A) := by
  rintro pins s σ H xs us Q I rel ⟨d, v, rfl, r, hs, hz, hu, q⟩
  obtain ⟨u, rfl, rv⟩ := vals1 rel
  have fin : ∀ (h' : Heap) (t : Tok) (tk : Nat), (∀ b o, s.heap.get? b = some o → h'.get? b = some o) → EP X pins σ Q (.str d.shown t) { s with heap := h', toks := tk } :=
    fun h' t tk k => ⟨.str d.shown, H, I.kept k, ⟨t, rfl⟩, q⟩
  cases d with
  | none =>
    simp only [Rp] at r; subst r; cases rv
    simp only [PyData.shown] at fin
    exact PySem.P.repr_of_none (fin _ _ _ fun _ _ e => e)
  | bool b =>
    simp only [Rp] at r; subst r; cases rv
    simp only [PyData.shown] at fin
    exact PySem.P.repr_of_bool (fin _ _ _ fun _ _ e => e)
  | int i =>
    simp only [Rp] at r; subst r
    obtain ⟨t, rfl⟩ := rv
    simp only [PyData.shown] at fin
    exact PySem.P.repr_of_int (by simpa [PyData.showable] using hs) (fin _ _ _ fun _ _ e => e)
  | str x =>
    simp only [Rp] at r; subst r
    obtain ⟨t, rfl⟩ := rv
    simp only [PyData.shown] at fin hz
    exact PySem.P.repr_of_str (fin _ _ _ fun _ _ e => e) hz
  | list ds =>
    have r0 := r
    simp only [Rp] at r
    obtain ⟨a, o, ys, rfl, ha, rl⟩ := r
    cases rv
    obtain ⟨its, n, vl, e1⟩ := lst_at I.hok ha
    simp only [PyData.shown] at hz fin
    simp only [PyData.depth] at hu
    obtain ⟨bs, lo, k⟩ := RpL.repr I.hok ds ys its rl vl (by simpa [PyData.showable] using hs) fun t ht => Nat.le_trans (listText_mem_le ht) hz
    obtain ⟨na, _⟩ := lo.top r0 (by simp only [PyData.depth]; omega)
    refine call_repr_slot (by omega) ⟨_, e1, rfl⟩ F.slot_list_repr.toG ?_
    cases its with
    | nil =>
      generalize hq : PyData.shownAll ds = ts at k fin
      cases k
      simp only [listText_nil] at fin
      exact call_list_repr_empty ⟨_, e1, rfl⟩ e1 rfl ⟨_, _, rfl, fin _ _ _ fun _ _ e => e⟩
    | cons x l =>
      exact call_list_reprK e1 rfl rfl na (by simpa using k.length_eq) (fun i y e => k.item i y (by simpa using e)) hg (fun b _ => Clear.nil b) (by show X.A.units + 1 + _ < cLine; omega) (fun _ _ e => e) (fun h' t tk kk => ⟨_, _, rfl, fin h' t tk kk⟩) hz
  | tuple ds =>
    have r0 := r
    simp only [Rp] at r
    obtain ⟨a, ys, rfl, ha, rl⟩ := r
    cases rv
    obtain ⟨its, o, n, vl, e1, e2, e3⟩ := tup_at I.hok ha
    simp only [PyData.shown] at hz fin
    simp only [PyData.depth] at hu
    obtain ⟨bs, lo, k⟩ := RpL.repr I.hok ds ys its rl vl (by simpa [PyData.showable] using hs) fun t ht => Nat.le_trans (tupleText_mem_le ht) hz
    obtain ⟨na, _⟩ := lo.top r0 (by simp only [PyData.depth]; omega)
    refine call_repr_slot (by omega) ⟨_, e1, e2⟩ F.slot_tuple_repr ?_
    exact call_tuple_reprK e1 e2 e3 na k hg (fun b _ => Clear.nil b) (by show X.A.units + 1 + _ < cLine; omega) (fun _ _ e => e) (fun h' t tk kk => ⟨_, _, rfl, fin h' t tk kk⟩) hz
  | dict kds =>
    have r0 := r
    simp only [Rp] at r
    rcases r with ⟨a, o, kvs, rfl, ha, rl⟩ | ⟨rfl, a, o, rfl, ha, no, sm⟩
    · cases rv
      obtain ⟨sm, kus, ob, es, n, kv, e1, e2, e3, pr⟩ := dct_at I.hok ha
      simp only [PyData.shown] at hz fin
      simp only [PyData.depth] at hu
      obtain ⟨bs, lo, k⟩ := RpD.repr I.hok kds kvs es.toList kus rl kv pr (by simpa [PyData.showable] using hs) fun t ht => Nat.le_trans (dictText_mem_le ht) hz
      obtain ⟨na, _⟩ := lo.top r0 (by simp only [PyData.depth]; omega)
      refine call_repr_slot (by omega) ⟨_, e1, e2⟩ F.slot_dict_repr ?_
      exact call_dict_reprK e1 e2 e3 sm na k hg (fun b _ => Clear.nil b) (by show X.A.units + 1 + _ < cLine; omega) (fun _ _ e => e) (fun h' t tk kk => ⟨_, _, rfl, fin h' t tk kk⟩) hz
    · cases rv
      obtain ⟨e1, e2, ep, t, e3⟩ := non_at I.hok ha no
      simp only [PyData.shown] at hz fin
      simp only [PyData.depth] at hu
      refine call_repr_slot (by omega) ⟨_, e1, e2⟩ F.slot_dict_repr ?_
      exact call_dict_reprK (as := []) e1 e2 e3 sm (by simp) (non_entries (n := 0)) hg (fun b _ => Clear.nil b) (by show X.A.units + 1 + _ < cLine; omega) (fun _ _ e => e) (fun h' t tk kk => ⟨_, _, rfl, fin h' t tk kk⟩) hz

/-- what e gives is locked for good -/
def tFz (t : TE) : TE := fun σ H Q => t σ H fun v H1 => ∃ p u, v = .ref p ∧ H1 p = some u ∧ Mut (some u) ∧ ∀ o, Q v (upd H1 p (.frz o u))
theorem pe_fz {e : Expr} {t : TE} (h : PE X e t) : PE X e (tFz t) := by
  constructor
  intro pins s σ H Q I q
  refine thn (h.run pins s σ H _ I q) ?_
  rintro v s1 ⟨x, H1, I1, rv, p, u, rfl, hp, mu, q⟩
  obtain ⟨o, I2⟩ := I1.lock hp mu
  exact ⟨.ref p, _, I2, rv, q o⟩

/-- ** of a great base -/
def CPowW (i j : Int) : Prop := 0 ≤ j ∧ (Builtin.Int.intBits i : Int) * j ≤ 2 ^ 27
theorem op_powW : OpR X (binaryOp .Pow) (rI CPowW fun i j => .int (i ^ j.toNat)) := by
  refine opI fun i j t u s Q E hc q => ?_
  exact pow_int hc.1 hc.2 q
end
end Tg
end
section
set_option Elab.async false
set_option linter.all false
set_option maxRecDepth 100000
set_option maxHeartbeats 4000000
/-! Tg, part D: an own error over ValueError whose __init__ says super().__init__(value); self.value = value. -/
namespace Tg
open PySem PySem.Spec PyProof.Rows L2

/-- super().__init__(value); self.value = value -/
abbrev iBody : List Stmt :=
  [.Expr (.Call (.Attribute (.Call (.Name "super" ⟨5, 8, 5, 13⟩) [] [] ⟨5, 8, 5, 15⟩) "__init__" ⟨5, 8, 5, 24⟩) [.Name "value" ⟨5, 25, 5, 30⟩] [] ⟨5, 8, 5, 31⟩) ⟨5, 8, 5, 31⟩,
    .Assign [.Attribute (.Name "self" ⟨6, 8, 6, 12⟩) "value" ⟨6, 8, 6, 18⟩] (.Name "value" ⟨6, 21, 6, 26⟩) ⟨6, 8, 6, 26⟩]
abbrev iArgs : Arguments := { posonlyargs := [], args := [{ arg := "self", annotation := none, pos := ⟨4, 17, 4, 21⟩ }, { arg := "value", annotation := none, pos := ⟨4, 23, 4, 28⟩ }], vararg := none, kwonlyargs := [], kw_defaults := [], kwarg := none, defaults := [] }
abbrev iScope : Scope := { kind := .function, names := [("self", .local), ("value", .local), ("__class__", .free), ("super", .globalImplicit)], isGenerator := false, isCoroutine := false, more := [] }
abbrev iFn (ql : Str) (dV kV dc pm : Value) (an : Option Addr) (cda : Addr) (ct : Value) (cc : Addr) : FuncData := PySem.W.ksFn "__init__" ql iArgs iBody iScope dV kV dc pm an (.ref cda) ct cc

section
open PySem.W PySem.Calls
variable {P : Program} {w : World} {A : Around} {E : Value → Shared → Prop} {h : Heap} {g : Array GenState} {d : Drawn} {t : Nat} {os : OsState}
/-- the built-in __init__, bound to an error, called -/
theorem call_veb {B i newId : String} {bmB : List Value} {nm q : Str} {C N u e t0 : Addr} {bs bm : List Value} {hd : Bool} {sn : List Str} {sub : List Value} {ab : Bool} {col : Option Bool} {dd : Option Addr} {k0 k1 k2 k3 k5 : Option Value} {rest : List Value} {Q : Value → Shared → Prop}
    (FB : ExcBaseFacts B newId i bmB) (hC : h.get? C = some (excClassObj nm q C N bs bm hd sn sub ab col dd k0 k1 k2 k3 k5 newId)) (he : h.get? e = some (HandSPX.excO C t0)) (hu : h.get? u = some (kxs_mw i e)) (hz : rest.length ≤ sizeLine)
    (hq : ∀ h' t1, (∀ b o, b ≠ e → h.get? b = some o → h'.get? b = some o) → h'.get? e = some (HandSPX.excO C t1) → Q .none ⟨h', g, d, t, os⟩) :
    wpAny (model P w) A (call (.ref u) rest) Q E ⟨h, g, d, t, os⟩ := by
  refine wpAny_call (codeAny_of_tree ?_)
  show wpAny _ A.in1 (callAny (.ref u) ⟨rest, []⟩) _ _ _
  simp only [callAny]
  refine wpAny_bind (wpAny_load hu ?_)
  have mw : (Value.type "method-wrapper" == Value.type "method" || Value.type "method-wrapper" == Value.type "builtin_function_or_method" || Value.type "method-wrapper" == Value.type "method-wrapper") = true := by decide
  simp only [kxs_mw, mw, if_true]
  refine KFB.if_so (by decide) ?_
  refine wpAny_bind (check_bound_init FB.toExcCallFacts hC he rfl ?_)
  refine wpAny_bind (wpAny_pure (wpAny_pure ?_))
  refine ⟨plainId_quiet FB.init.plain _, codeAny_builtin FB.initEntry ?_⟩
  exact exc_init_tree (cls := .ref C) (t0 := t0) (dv := none) (c2 := .none) (c3 := .none) (b4 := .bool false) he hz fun h' k e' _ => hq h' h.objs.size k e'
end

section
open PySem.W PySem.Calls
variable {P : Program} {w : World} {A : Around} {R : Result → Shared → Prop} {s : Shared} {K : Frag} {mg mb : Str → Option Value}
/-- that __init__ at a new error -/
theorem init_run {f cc cda D C e t1 : Addr} {u : Value} {ql file : Str} {dV kV dc pm ct oc ccl cl : Value} {an od cdd cld : Option Addr} {sl ccs csl : Array (Option Value)} {vs : Array Value} {tf : Tok} {cdD : ClassData} {ag : Args}
    {nm q : Str} {N : Addr} {bs bm : List Value} {sn : List Str} {sub : List Value} {ab : Bool} {col : Option Bool} {dd : Option Addr} {k0 k1 k2 k3 k5 : Option Value}
    (X : K.In s.heap) (room : A.depth < recursionLimit) (lim : s.heap.NoLimit) (gns : s.heap.Ns mainGlobals mg) (hsu : mg "super" = none) (bns : s.heap.Ns builtinsNs mb) (bbt : ∀ x : Str, x ≠ "__name__" → mb x = bootBuiltins x)
    (lk : K.lookup f = some ⟨oc, od, .func (iFn ql dV kV dc pm an cda ct cc), sl⟩) (hcd : codeIn K (.ref cda) ql = true)
    (hcode : K.lookup cda = some ⟨ccl, cdd, .fields vs, ccs⟩) (hvs : vs[2]? = some (.str file tf)) (hfile : ((P.main.file : Str) == file) = true) (htop : (P.main.scope.names.lookup ("super" : Str)).isSome = false)
    (hcell : K.lookup cc = some ⟨cl, cld, .cell (some (.ref D)), csl⟩) (hD : clsIn K D = some cdD)
    (hC : K.lookup C = some (excClassObj nm q C N bs bm true sn sub ab col dd k0 k1 k2 k3 k5 "ValueError.__new__")) (hbm : HandSPX.refsVE bm = true) (hsub : mroIn K C (.ref D) = some true) (hsp : ks_superIn K C D "__init__" = some (some (.builtin "ValueError.__init__")))
    (h3 : nsIn K cStatics "thirdparty.any" = some none) (hve : subIn K (.ref C) (.type "ValueError") = some true) (hsa : findIn K (.ref C) "__setattr__" = some (some (.builtin "object.__setattr__"))) (hno : findIn K (.ref C) "value" = some none)
    (he : s.heap.get? e = some (HandSPX.excO C t1)) (hnk : K.lookup e = none) (hb : BindsTo s (iFn ql dV kV dc pm an cda ct cc) ag [("self", .ref e), ("value", u)])
    (hq : ∀ s' dx t2, s'.os = s.os → s'.gens = s.gens → (∀ b o, b ≠ e → s.heap.get? b = some o → s'.heap.get? b = some o) → s.heap.objs.size ≤ dx → dx ≠ e →
      s'.heap.get? e = some { cls := .ref C, dict := some dx, data := .fields #[.ref t2, .none, .none, .none, .bool false, .none] } → s'.heap.Ns1 dx (fun y => if y = "value" then some u else none) → R (.ok (.ret .none)) s') :
    codeAny (model P w) A (.call (.ref f) ag) R s := by
  have hcl : clsIn K C = some { name := nm, bases := bs, mro := .ref C :: bm, ns := N, qualname := q, hasDict := true, slotNames := sn, subclasses := sub, abstract := ab, collection := col, hasDel := false } := by
    unfold clsIn; rw [hC] <;> rfl
  obtain ⟨hh, g, dr, t, os⟩ := s
  have eL : e ≠ hh.objs.size := Nat.ne_of_lt (Heap.lt_size he)
  refine ks_codeAny_call_defAt (fd := iFn ql dV kV dc pm an cda ct cc) (binds := [("self", .ref e), ("value", u)]) room (X _ _ lk) rfl lim (codeRec_of X hcd) rfl hb (fun x hx => ?_) (fun x hx => ?_) (fun h₁ hns hk => ?_)
  · have hx' : x ∈ ([("self", .local), ("value", .local), ("__class__", .free), ("super", .globalImplicit)] : List (Str × NameKind)) := hx
    simp only [List.mem_cons, List.not_mem_nil, or_false] at hx'
    rcases hx' with rfl | rfl | rfl | rfl <;> exact fun z => nomatch z
  · rcases List.mem_cons.mp hx with rfl | hx
    · rfl
    · rcases List.mem_cons.mp hx with rfl | hx
      · rfl
      · exact absurd hx List.not_mem_nil
  have X1 : K.In h₁ := fun b o z => hk b o (X b o z)
  have e1 : h₁.get? e = some (HandSPX.excO C t1) := hk _ _ he
  obtain ⟨oD, hD1, hD2⟩ : ∃ oD, h₁.get? D = some oD ∧ oD.data = .cls cdD := by
    unfold clsIn at hD
    split at hD
    · rename_i c d cd' sl ho
      cases hD
      exact ⟨_, X1 _ _ ho, rfl⟩
    · cases hD
  refine ks_wpAt_execs_cons (ks_wpAt_Expr_any (ks_wpAt_MethodCall ?_))
  refine ks_wpAt_super_base (env := ksEnv ql iScope hh.objs.size f (.ref cda) cc) rfl rfl (by decide) rfl (X1 _ _ lk) rfl rfl rfl (X1 _ _ hcode) rfl hvs hfile htop ?_
  refine ks_loadName_global rfl rfl (loadGlobal_builtin (env := ksEnv ql iScope hh.objs.size f (.ref cda) cc) (gns.keeps hk) hsu (bns.keeps hk) ((bbt _ (by decide +kernel)).trans PyProof.Rows.Boot.super) ⟨rfl, ?_⟩)
  refine wpAny_loadName_free rfl rfl rfl ⟨_, X1 _ _ hcell, rfl⟩ ?_
  refine wpAny_loadName_local (v := .ref e) rfl rfl hns rfl ?_
  refine ks_wpAny_isType_cls hD1 hD2 ⟨rfl, ?_⟩
  refine ks_wpAny_call_super hD1 hD2 e1 rfl (fun c z => nomatch z) (looks_mroIn X1 hsub) (fun h₂ so k2 => ?_)
  -- the method
  have X2 : K.In h₂ := fun b o z => k2 b o (X1 b o z)
  have e2 : h₂.get? e = some (HandSPX.excO C t1) := k2 _ _ e1
  have I2 : InstAt h₂ e (HandSPX.excO C t1) C none := ⟨e2, rfl, rfl, trivial⟩
  have eC : e ≠ C := ks_ne X2 I2 hcl
  have hm : alongIn K "__init__" (((Value.ref C :: bm).dropWhile (· != .ref D)).drop 1) = some (some (.builtin "ValueError.__init__")) := by
    have z := hsp
    unfold ks_superIn at z
    rw [hcl] at z
    exact z
  refine kxs_getMethod kxs_ValueError so (looks_opaque X2 h3) (l₀ := Value.ref C :: bm) ((looks_clsIn X2 hcl).andThen .now) rfl X2 hm (I2.type.andThen (looks_subIn X2 hve)) eC (by decide) ?_
  -- the call of the bound one
  dsimp only
  refine kxs_callWith (i := "ValueError.__init__") (x := e) rfl ?_
  have hns2 := hns.keeps k2
  have k3 : ∀ b o, h₂.get? b = some o → (h₂.push (kxs_mw "ValueError.__init__" e)).get? b = some o := fun b o z => Heap.get?_push_of_some _ z
  have hu : (h₂.push (kxs_mw "ValueError.__init__" e)).get? h₂.objs.size = some (kxs_mw "ValueError.__init__" e) := Heap.get?_push_at rfl rfl
  refine evalArgs_plain (spliced_cons ?_)
  refine wpAny_Name (wpAny_loadName_local (v := u) rfl rfl (hns2.keeps k3) rfl ?_) (by decide)
  refine spliced_nil ⟨hu, ?_⟩
  refine call_veb F.excBase_ValueError (k3 _ _ (X2 _ _ hC)) (k3 _ _ e2) hu (by show 1 ≤ sizeLine; decide) fun h₃ t2 k4 e3 => ?_
  -- self.value = value
  have k34 : ∀ b o, b ≠ e → h₂.get? b = some o → h₃.get? b = some o := fun b o hb z => k4 b o hb (k3 b o z)
  have hns3 := hns2.at (h' := h₃) fun o z => k34 _ o (Ne.symm eL) z
  have hC2 : h₂.get? C = _ := X2 _ _ hC
  have X3 : K.In h₃ := fun b o z => k34 b o (fun y => by
    rw [y] at z
    rw [hnk] at z
    cases z) (X2 b o z)
  refine ks_wpAt_execs_cons (ks_wpAt_Assign_Attr ?_)
  refine wpAt_of_wpAny (wpAny_Name (wpAny_loadName_local (v := u) rfl rfl hns3 rfl ?_) (by decide))
  refine wpAny_Name (wpAny_loadName_local (v := .ref e) rfl rfl hns3 rfl ?_) (by decide)
  refine set_plain X3 (ox := HandSPX.excO C t2) (od := none) ⟨e3, rfl, rfl, trivial⟩ hsa ?_
  refine HandSPX.exc_osa X3 e3 hcl (show HandSPX.refsVE (.ref C :: bm) = true from hbm) rfl hno (fun h₄ tk dx k5 dn dne hx hn => ?_)
  refine wpAt_of_wpAny (wpAny_execs_nil ?_)
  refine hq _ dx t2 rfl rfl (fun b o hb z => k5 b o hb (k34 b o hb (k2 b o (hk b o z)))) ?_ dne hx hn
  have l0 : hh.objs.size < h₃.objs.size := hns3.lt
  exact Nat.le_trans (Nat.le_of_lt l0) dn
end
end Tg
end
section
set_option Elab.async false
set_option linter.all false
set_option maxRecDepth 100000
set_option maxHeartbeats 4000000
/-! Tg, part E: such errors in the layer: made as values, raised, asked for their class and their value. -/
namespace Tg
open PySem PySem.Spec PyProof.Rows L2

/-- the class at C is such an error (its __init__ the def at fI, of the class at D) -/
structure ErrC (K : PySem.W.Frag) (fI D C : Addr) : Prop where
  ox : OexC K C
  ini : PySem.W.findIn K (.ref C) "__init__" = some (some (.ref fI))
  sub : PySem.W.mroIn K C (.ref D) = some true
  sup : PySem.W.ks_superIn K C D "__init__" = some (some (.builtin "ValueError.__init__"))
  ve : PySem.W.subIn K (.ref C) (.type "ValueError") = some true
  no : PySem.W.findIn K (.ref C) "value" = some none
  xc : ExcC K C

def clsB (K : PySem.W.Frag) (C : Addr) : Bool := match K.lookup C with
  | some ⟨.type "type", _, .cls cd, sl⟩ => (match cd.mro, sl.toList with
    | .ref C' :: bm, [_, _, _, _, some (.builtin n), _] => C' == C && n == "ValueError.__new__" && !cd.hasDel && cd.hasDict && PySem.HandSPX.refsVE bm
    | _, _ => false)
  | _ => false
theorem clsB_ok {K : PySem.W.Frag} {C : Addr} (z : clsB K C = true) : ∃ nm q N bs bm sn sub ab col dd k0 k1 k2 k3 k5,
    K.lookup C = some (excClassObj nm q C N bs bm true sn sub ab col dd k0 k1 k2 k3 k5 "ValueError.__new__") ∧ PySem.HandSPX.refsVE bm = true := by
  unfold clsB at z
  split at z
  · rename_i dd cd sl ho
    split at z
    · rename_i C' bm k0 k1 k2 k3 n k5 hm hs
      simp only [Bool.and_eq_true, beq_iff_eq, Bool.not_eq_true'] at z
      obtain ⟨⟨⟨⟨rfl, rfl⟩, hdel⟩, hdct⟩, hr⟩ := z
      cases cd with
      | mk nm bs mro ns qn hd sn sub ab col del =>
        dsimp only at hm hdel hdct
        subst hm hdel hdct
        cases sl with
        | mk l =>
          simp only at hs
          subst hs
          exact ⟨_, _, _, _, _, _, _, _, _, _, _, _, _, _, _, ho, hr⟩
    · cases z
  · cases z
/-- all that is asked of the class, by one look -/
def errB (K : PySem.W.Frag) (fI D C : Addr) : Bool :=
  clsB K C && decide (PySem.W.findIn K (.ref C) "__setattr__" = some (some (.builtin "object.__setattr__"))) && decide (PySem.W.subIn K (.ref C) (.type "BaseException") = some true) && decide (PySem.W.typeIn K (.ref C) = some (.type "type")) &&
  PySem.W.keepIn K (.ref C) && decide (PySem.W.findIn K (.ref C) "__init__" = some (some (.ref fI))) && decide (PySem.W.mroIn K C (.ref D) = some true) && decide (PySem.W.ks_superIn K C D "__init__" = some (some (.builtin "ValueError.__init__"))) &&
  decide (PySem.W.subIn K (.ref C) (.type "ValueError") = some true) && decide (PySem.W.findIn K (.ref C) "value" = some none) &&
  decide (PySem.W.findIn K (.ref C) "__getattribute__" = some (some (.builtin "BaseException.__getattribute__"))) && decide (PySem.W.findIn K (.ref C) "__getattr__" = some none) && PySem.W.hasDictIn K C &&
  decide (PySem.W.findIn K (.ref C) "__class__" = some (some (.builtin "object.__class__"))) && decide (PySem.W.specialIn K (.builtin "object.__class__") "__get__" = some (some (.builtin "getset_descriptor.__get__"))) &&
  decide (PySem.W.takesIn K (.builtin "object.__class__") = some true) && decide (PySem.W.mroIn K C (.type "object") = some true)
theorem errB_ok {K : PySem.W.Frag} {fI D C : Addr} (z : errB K fI D C = true) : ErrC K fI D C := by
  unfold errB at z
  simp only [Bool.and_eq_true, decide_eq_true_eq] at z
  obtain ⟨⟨⟨⟨⟨⟨⟨⟨⟨⟨⟨⟨⟨⟨⟨⟨z1, z2⟩, z3⟩, z4⟩, z5⟩, z6⟩, z7⟩, z8⟩, z9⟩, z10⟩, z11⟩, z12⟩, z13⟩, z14⟩, z15⟩, z16⟩, z17⟩ := z
  exact ⟨⟨clsB_ok z1, z2, z3, z4, z5⟩, z6, z7, z8, z9, z10, ⟨z11, z12, z3, z13, z14, z15, z16, z17⟩⟩

/-- what the written part says of that __init__ -/
structure IniT (P : Program) (K : PySem.W.Frag) (mg : Str → Option Value) (fI D : Addr) (fd : FuncData) : Prop where
  fn : ∃ (ql file : Str) (dV kV dc pm ct oc ccl cl : Value) (an od cdd cld : Option Addr) (sl ccs csl : Array (Option Value)) (cda cc : Addr) (vs : Array Value) (tf : Tok) (cdD : ClassData),
    fd = iFn ql dV kV dc pm an cda ct cc ∧ K.lookup fI = some ⟨oc, od, .func fd, sl⟩ ∧ PySem.W.codeIn K (.ref cda) ql = true ∧ K.lookup cda = some ⟨ccl, cdd, .fields vs, ccs⟩ ∧ vs[2]? = some (.str file tf) ∧ ((P.main.file : Str) == file) = true ∧
    K.lookup cc = some ⟨cl, cld, .cell (some (.ref D)), csl⟩ ∧ PySem.W.clsIn K D = some cdD
  su : mg "super" = none
  th : PySem.W.nsIn K cStatics "thirdparty.any" = some none
  tp : (P.main.scope.names.lookup ("super" : Str)).isSome = false
  ty : PySem.W.typeIn K (.ref fI) = some (.type "function")

def spIni (K : PySem.W.Frag) (fI D : Addr) : Sp := fun vs H Q _ => ∃ (a C : Addr) (v : V), vs = [.ref a, v] ∧ ErrC K fI D C ∧ H a = some (exo a C none) ∧
  ∀ dx, H dx = none → dx ≠ a → Q .non (upd (upd H dx (exd dx [("value", v)])) a (exo a C (some dx)))

theorem ini_ok {P : Program} {w : World} {K : PySem.W.Frag} {mg : Str → Option Value} {base : Heap} {CX : CXT} {fI D : Addr} {fd : FuncData} (T : IniT P K mg fI D fd) : FnOk P w K mg base CX 1 fI fd ["self", "value"] (spIni K fI D) := by
  constructor
  · rintro vs H Q E ⟨a, C, v, rfl, _⟩
    rfl
  rintro A fr s H ag us vs Q E room en bnd rel ⟨a, C, v, rfl, EC, ha, q⟩
  obtain ⟨ql, file, dV, kV, dc, pm, ct, oc, ccl, cl, an, od, cdd, cld, sl, ccs, csl, cda, cc, vs', tf, cdD, rfl, lk, hcd, hcode, hvs, hfile, hcell, hD⟩ := T.fn
  obtain ⟨ua, u, rfl, ra, ru⟩ := vals2 rel
  obtain rfl : ua = Value.ref a := ra
  obtain ⟨nm, qn, N, bs, bm, sn, sub, ab, col, dd, k0, k1, k2, k3, k5, hC, hbm⟩ := EC.ox.cls
  have stays : ∀ b o, base.get? b = some o → s.heap.get? b = some o := fun b o e => (en.bs b o e).1
  have inK : K.In s.heap := en.mod.kin.keeps stays
  obtain ⟨mb, b1, b2⟩ := en.mod.blt
  obtain ⟨t1, hoe⟩ := exo_at en.hok ha
  have hnk : K.lookup a = none := by
    cases z : K.lookup a with
    | none => rfl
    | some o =>
      have y := (en.bs a o (en.mod.kin a o z)).2
      rw [ha] at y
      cases y
  refine init_run inK room.depth (en.mod.nolimit.keeps stays) (en.mod.glob.keeps stays) T.su (b1.keeps stays) b2 lk hcd hcode hvs hfile T.tp hcell hD hC hbm EC.sub EC.sup T.th EC.ve EC.ox.sa EC.no hoe hnk bnd ?_
  intro s' dx t2 hos hgn k dn dne hx hn
  have hnd : H dx = none := en.hok.fresh dn
  have nd : ∀ {b : Addr} {o : Obj}, s.heap.get? b = some o → b ≠ dx := fun {b o} z => Nat.ne_of_lt (Nat.lt_of_lt_of_le (Heap.lt_size z) dn)
  have na : ∀ {b : Addr}, H b = none → b ≠ a := fun {b} n z => by
    rw [z, ha] at n
    cases n
  refine ⟨.non, upd (upd H dx (exd dx [("value", v)])) a (exo a C (some dx)), hos, by rw [hgn]; exact en.bare, ⟨?_, ?_, ?_, ?_, ?_, ?_, ?_⟩, ?_, rfl, q dx hnd dne⟩
  · exact fun b o z n _ _ => k b o (na n) z
  · exact fun b o z n _ _ => ⟨o.slots, k b o (na n) z⟩
  · intro b o z n _
    rw [upd_ne (na n), upd_ne (nd z)]
    exact n
  · intro b o z _
    by_cases hb : b = a
    · exact ⟨_, by rw [hb]; exact hx⟩
    · exact ⟨o, k b o hb z⟩
  · intro b xs z
    rw [upd_ne (at_ne ha z exo_tup), upd_ne (ne_of_none z hnd)]
    exact z
  · intro b o x z
    rw [upd_ne (at_ne ha z exo_frz), upd_ne (ne_of_none z hnd)]
    exact z
  · intro b ps z
    exact ⟨#[], by rw [upd_ne (at_ne ha z exo_tbl), upd_ne (ne_of_none z hnd), z]; simp⟩
  · intro b o z
    by_cases hb : b = a
    · subst hb
      rw [upd_same] at z
      cases z
      exact exo_ok hx
    rw [upd_ne hb] at z
    by_cases hd : b = dx
    · subst hd
      rw [upd_same] at z
      cases z
      exact exd_ok hn (relO_put (fs := []) ru fun g => True.intro)
    rw [upd_ne hd] at z
    refine (en.hok b o z).stay (fun c x hc y => k c x ?_ y) (fun c hc => ?_) (fun c xs hc => ?_)
    · rcases hc with hc | hc
      · rw [hc]; exact hb
      · exact at_ne ha hc exo_own
    · rw [upd_ne (at_ne ha hc exo_own), upd_ne (ne_of_none hc hnd)]
      exact hc
    · rw [upd_ne (at_ne ha hc exo_tup), upd_ne (ne_of_none hc hnd)]
      exact hc
end Tg
end
section
set_option Elab.async false
set_option linter.all false
set_option maxRecDepth 100000
set_option maxHeartbeats 4000000
/-! Tg, part F: rules for such errors: C(e) as a value, raise C(e), isinstance(err, ..), err.value. -/
namespace PySem.W
open PySem
section
variable {prog : Program} {w : World} {A : Around} {E : Value → Shared → Prop} {s : Shared} {K : Frag} {x D : Addr} {ox : Obj} {od : Option Obj}
/-- type(err), as isinstance asks for it, of an error that may have its own dict -/
theorem tg_classE {Q : Option Value → Shared → Prop} (c : L2.ExcC K D) (X : K.In s.heap) (I : InstAt s.heap x ox D od) (h : Q (some (.ref D)) { s with toks := s.toks + 1 }) :
    wpAny (model prog w) A (getAttr? (.ref x) "__class__") Q E s := by
  have found : findObj K D od "__class__" = some (.bind (.builtin "getset_descriptor.__get__") (.builtin "object.__class__")) := by
    obtain ⟨cd, hc, _⟩ := any_some c.hd
    unfold findObj
    rw [hc, Option.bind_some, c.ha, Option.bind_some]
    simp [c.hn, c.ht]
  obtain ⟨hp, g, d, t, os⟩ := s
  have la := I.type (M := model prog w)
  have lb := looks_findIn (M := model prog w) X c.hg
  have lc := looks_findIn (M := model prog w) X c.hk
  have ld := looks_find (M := model prog w) X I found
  have isx : Looks (model prog w) hp (isInstance (.ref x) (.type "BaseException")) true := la.andThen (looks_subIn X c.hs)
  have other : (onTheHeap (Value.ref D) && Value.builtin "BaseException.__getattribute__" == Value.builtin "object.__getattribute__") = false := by
    show (true && Value.builtin "BaseException.__getattribute__" == Value.builtin "object.__getattribute__") = false
    decide +kernel
  unfold getAttr? getAttrBy? getAttrBy
  refine wpAny_bind (wpAny_mkText (wpAny_bind (wpAny_attempt (wpAny_holding (wpAny_bind (la.at (wpAny_bind (lb.at ?_))))))))
  show wpAny _ _ (if (onTheHeap (Value.ref D) && Value.builtin "BaseException.__getattribute__" == Value.builtin "object.__getattribute__") = true then _ else _) _ _ _
  rw [other, if_neg Bool.false_ne_true]
  unfold getAttrByItsOwn hookBefore
  refine wpAny_bind ?_
  rw [if_pos (show onTheHeap (Value.ref D) = true from rfl)]
  refine lc.at (wpAny_bind (wpAny_attempt (wpAny_holding ?_)))
  unfold callGetattribute
  rw [if_neg (show ¬ ((false && onTheHeap (Value.builtin "BaseException.__getattribute__")) = true) from Bool.false_ne_true)]
  unfold boundAndCalled
  rw [PySem.F.excAttr_ValueError.ga.bind (.ref x)]
  refine wpAny_bind (wpAny_pure ?_)
  show wpAny _ _ (call (.builtin "BaseException.__getattribute__") [.ref x, .str "__class__" t]) _ _ _
  refine wpAny_call (codeAny_call_builtin PySem.F.excAttr_ValueError.ga.plain PySem.F.entry_bexc_ga ?_)
  refine @check_slot (model prog w) _ _ ⟨hp, g, d, t + 1, os⟩ "BaseException.__getattribute__" "BaseException" "__getattribute__" (.ref x) [.str "__class__" t] [] _ (by decide +kernel) (by decide +kernel) isx (PySem.F.args_bexc_ga (.ref x) (.str "__class__" t)) ?_
  unfold Builtin.«object.__getattribute__»
  refine wpAny_bind (wpAny_of_eq (a := ((Value.ref x : Value), [Value.str "__class__" t])) (by first | rfl | (simp only [slotArgs]; rfl)) ?_)
  refine wpAny_bind (wpAny_pure (wpAny_bind (la.at (wpAny_bind (ld.at ?_)))))
  show wpAny _ _ (holding [Value.builtin "object.__class__"] (call (.builtin "getset_descriptor.__get__") [.builtin "object.__class__", .ref x, .ref D]) >>= ret) _ _ _
  refine wpAny_bind (wpAny_holding (wpAny_call (class_get (s := ⟨hp, g, d, t + 1, os⟩) (ox := ox) (od := od) X I c.hm ?_)))
  refine wpAny_pure ?_
  show wpAny _ _ (handedOut (.ref D)) _ _ _
  rw [handedOut_of (v := .ref D) rfl]
  first
    | exact wpAny_pure (wpAny_pure h)
    | exact wpAny_pure h
    | exact wpAny_pure (wpAny_bind (wpAny_pure (wpAny_pure h)))
theorem tg_kit (c : L2.ExcC K D) : KitX K (.ref x) (.ref D) (fun h => ∃ ox od, InstAt h x ox D od) where
  ty := fun _ _ _ ⟨_, _, I⟩ => I.type
  it := fun _ _ X _ => by
    obtain ⟨cd, hc, _⟩ := any_some c.hd
    unfold clsIn at hc
    split at hc
    · rename_i c' d' cd' sl' ho
      intro A' Q' E' s' k q
      unfold isType loadHead
      exact wpAny_bind (wpAny_loadPart (k _ _ (X _ _ ho)) (wpAny_pure q))
    · cases hc
  ne := fun h tp dd its n sl X htp => by
    obtain ⟨cd, hc, _⟩ := any_some c.hd
    refine Bool.eq_false_iff.mpr fun q => ?_
    have e : D = tp := Value.ref.inj (beq_iff_eq.mp q)
    subst e
    unfold clsIn at hc
    split at hc
    · rename_i c' d' cd' sl' ho
      exact nomatch ((X _ _ ho).symm.trans htp)
    · cases hc
  ca := fun X ⟨_, _, I⟩ k => tg_classE c X I k
end
end PySem.W

namespace Tg
open PySem PySem.Spec PyProof.Rows L2

/-- at a: an error of the class at C, its dict at d -/
def exq (a C d : Addr) : HO := .ext fun h => ∃ (oe : Obj) (vs : Array Value), h.get? a = some oe ∧ Zc (.ref C) (some d) oe ∧ oe.data = .fields vs
theorem exq_ok {P : Program} {w : World} {H : Hp} {h : Heap} {a C d : Addr} {oe : Obj} {vs : Array Value} (e : h.get? a = some oe) (z : Zc (.ref C) (some d) oe) (hd : oe.data = .fields vs) : ObjOk P w H h a (exq a C d) :=
  ⟨⟨oe, vs, e, z, hd⟩, ⟨oe, e⟩, fun h1 h2 ⟨o1, v1, e1, z1, d1⟩ k => ⟨o1, v1, k _ e1, z1, d1⟩⟩
theorem exq_at {P : Program} {w : World} {H : Hp} {h : Heap} {a C d : Addr} (ok : HOk P w H h) (e : H a = some (exq a C d)) : ∃ (oe : Obj) (vs : Array Value), h.get? a = some oe ∧ Zc (.ref C) (some d) oe ∧ oe.data = .fields vs := by
  have x : ObjOk P w H h a (.ext fun h => ∃ (oe : Obj) (vs : Array Value), h.get? a = some oe ∧ Zc (.ref C) (some d) oe ∧ oe.data = .fields vs) := ok a _ e
  exact x.1
theorem exq_frz {a C d : Addr} {ob : Obj} {w : HO} : exq a C d ≠ .frz ob w := fun z => by
  have z' : HO.ext _ = HO.frz ob w := z
  cases z'
theorem exq_tup {a C d : Addr} {xs : List V} : exq a C d ≠ .tup xs := fun z => by
  have z' : HO.ext _ = HO.tup xs := z
  cases z'

/-- the error at a has the class at C and the value v -/
structure Err (H : Hp) (a C : Addr) (v : V) : Prop where
  ex : ∃ d, H a = some (exq a C d) ∧ H d = some (.xd [("value", v)])
theorem Err.keep {H H' : Hp} {a C : Addr} {v : V} (h : Err H a C v) (k : Same H H') : Err H' a C v := let ⟨d, e1, e2⟩ := h.ex; ⟨d, k _ _ e1, k _ _ e2⟩

section
variable {X : Cx}
/-- what is known of a thing is told otherwise -/
theorem inv_swap {pins : List (Addr × Obj)} {σ : L2.St} {H : Hp} {s : Shared} {a : Addr} {φ : Heap → Prop} {o : HO} (I : Inv X pins σ H s) (ha : H a = some (.ext φ)) (new : ObjOk X.prog X.w (upd H a o) s.heap a o) : Inv X pins σ (upd H a o) s := by
  obtain ⟨ob, e⟩ : ∃ ob, s.heap.get? a = some ob := by
    obtain ⟨_, q, _⟩ := (show ObjOk X.prog X.w H s.heap a (.ext φ) from I.hok a _ ha)
    exact q
  have J := I.write (t' := s.toks) (h' := s.heap) (x := a) (e := a) (o := o) (by rw [ha]; exact True.intro) (.inl rfl) (fun _ _ _ q => q) ⟨ob, e⟩ new
  exact J

/-- C(e) -/
def tErr (C : Addr) (te : TE) : TE := fun σ H Q => te σ H fun v H1 => ∀ a d, H1 a = none → H1 d = none → d ≠ a → Q (.ref a) (upd (upd H1 d (.xd [("value", v)])) a (exq a C d))
theorem pe_err {fI D C : Addr} {fd : FuncData} {x : Str} {e : Expr} {te : TE} {p pos : Pos} (EC : ErrC X.K fI D C) (T : IniT X.prog X.K X.mg fI D fd) (hr : Room 2 X.A) (hg : Gl X x) (hm : X.mg x = some (.ref C)) (hb : Binds X.K fd ["self", "value"] []) (he : PE X e te)
    (hdb : (x == ("__debug__" : Str)) = false := by decide) (hs : starEach [e] X.env = (false, eval e X.env) :: starEach [] X.env := by rfl) :
    PE X (.Call (.Name x p) [e] [] pos) (tErr C te) := by
  constructor
  intro pins s σ H Q I h
  obtain ⟨nm, qn, N, bs, bm, sn, sub, ab, col, dd, k0, k1, k2, k3, k5, hC, hbm⟩ := EC.ox.cls
  apply wpAny_Call_Name_kw
  apply ld_glob I hg hm _ hdb
  refine PySem.W.callWith_K (h₀ := X.base) I.ok.mod.kin EC.ox.kC ?_ hs rfl
  rw [hs]
  show wpAny _ _ (spliced ((false, eval e X.env) :: backTo pos (starEach [] X.env))) _ _ s
  refine Calls.spliced_cons (thn (he.run pins s σ H _ I h) ?_)
  rintro u s1 ⟨v, H1, I1, ru, q1⟩
  refine Calls.spliced_nil ⟨I1.kIn, ?_⟩
  show wpAny _ _ (call (.ref C) [u]) _ _ _
  obtain ⟨hp, g, dr, tk, os⟩ := s1
  have up : hp.objs.size ≤ hp.objs.size + 1 := Nat.le_succ _
  have na : H1 (hp.objs.size + 1) = none := I1.hok.fresh up
  have kk : ∀ b o, hp.get? b = some o → ((hp.push (PySem.W.kdv_tup [u])).push (PySem.HandSPX.excO C hp.objs.size)).get? b = some o := fun b o z => Heap.get?_push_of_some _ (Heap.get?_push_of_some _ z)
  have new : ((hp.push (PySem.W.kdv_tup [u])).push (PySem.HandSPX.excO C hp.objs.size)).get? (hp.objs.size + 1) = some (PySem.HandSPX.excO C hp.objs.size) := by heap_get
  have I2 : Inv X pins σ (upd H1 (hp.objs.size + 1) (exo (hp.objs.size + 1) C none)) ⟨(hp.push (PySem.W.kdv_tup [u])).push (PySem.HandSPX.excO C hp.objs.size), g, dr, tk, os⟩ :=
    I1.laid (t' := tk) (a := hp.objs.size + 1) (o := exo (hp.objs.size + 1) C none) (h' := (hp.push (PySem.W.kdv_tup [u])).push (PySem.HandSPX.excO C hp.objs.size)) kk up (exo_ok new)
  have r2 : Vals [V.ref (hp.objs.size + 1), v] [Value.ref (hp.objs.size + 1), u] := .cons rfl (.cons ru .nil)
  have bnd := hb _ [Value.ref (hp.objs.size + 1), u] I2.kIn rfl
  have ran := (ini_ok (P := X.prog) (w := X.w) (base := X.base) (CX := CX0) T).run (X.A.under (.builtin "type.__call__" ⟨[.ref C, u], []⟩)) X.stack _ _ ⟨[Value.ref (hp.objs.size + 1), u], []⟩ [Value.ref (hp.objs.size + 1), u] _
    (fun w H2 => w = .non ∧ ∃ dx, H2 = upd (upd (upd H1 (hp.objs.size + 1) (exo (hp.objs.size + 1) C none)) dx (exd dx [("value", v)])) (hp.objs.size + 1) (exo (hp.objs.size + 1) C (some dx)) ∧ H1 dx = none ∧ dx ≠ hp.objs.size + 1)
    (fun _ _ _ => False) (hr.make C [u] []) (I2.env0.make C [u] []) bnd r2
    ⟨hp.objs.size + 1, C, v, rfl, EC, upd_same, fun dx hdx ne => ⟨rfl, dx, rfl, by rw [upd_ne ne] at hdx; exact hdx, ne⟩⟩
  refine wpAny_call (PySem.HandSPX.call_own F.excBase_ValueError (fun Y => PySem.HandSPX.refsVE_contains Y bm hbm) (I1.kIn _ _ hC) (PySem.W.looks_findIn I1.kIn EC.ini) (fun self => PySem.W.bind_fn I1.kIn self T.ty) (by show 1 ≤ sizeLine; decide)
    (codeAny_mono ran fun r s' hq => ?_))
  match r, hq with
  | .error er, hq => exact False.elim hq
  | .ok .next, hq => exact False.elim hq
  | .ok .brk, hq => exact False.elim hq
  | .ok .cont, hq => exact False.elim hq
  | .ok (.ret w'), ⟨v', H2, os2, bare2, un2, hok2, rv, ev, dx, eH, hdx, ne⟩ =>
    subst ev
    refine ⟨rv, ?_⟩
    have I3 : Inv X pins σ H2 s' := I2.call' (ch := []) os2 un2 hok2 bare2 fun b z => absurd z List.not_mem_nil
    generalize hp.objs.size + 1 = a at *
    have ha : H2 a = some (exo a C (some dx)) := by rw [eH]; exact upd_same
    have hd : H2 dx = some (exd dx [("value", v)]) := by rw [eH, upd_ne ne]; exact upd_same
    obtain ⟨t0, oa⟩ := exo_at I3.hok ha
    obtain ⟨mA, ns, rel⟩ := exd_at I3.hok hd
    have I4 : Inv X pins σ (upd H2 a (exq a C dx)) s' := inv_swap I3 ha (exq_ok oa ⟨rfl, rfl⟩ rfl)
    have hd4 : (upd H2 a (exq a C dx)) dx = some (exd dx [("value", v)]) := by rw [upd_ne ne]; exact hd
    have I5 : Inv X pins σ (upd (upd H2 a (exq a C dx)) dx (.xd [("value", v)])) s' := inv_swap I4 hd4 ⟨mA, ns, rel⟩
    have eq : upd (upd H2 a (exq a C dx)) dx (.xd [("value", v)]) = upd (upd H1 dx (.xd [("value", v)])) a (exq a C dx) := by
      funext b
      by_cases h1 : b = a
      · subst h1
        rw [upd_ne (Ne.symm ne), upd_same, upd_same]
      · by_cases h2 : b = dx
        · subst h2
          rw [upd_same, upd_ne h1, upd_same]
        · rw [upd_ne h2, upd_ne h1, upd_ne h1, upd_ne h2, eH, upd_ne h1, upd_ne h2, upd_ne h1]
    rw [eq] at I5
    exact ⟨.ref a, _, I5, rfl, q1 a dx na hdx ne⟩
end
end Tg
end
section
set_option Elab.async false
set_option linter.all false
set_option maxRecDepth 100000
set_option maxHeartbeats 4000000
/-! Tg, part G: raise C(e); isinstance(err, ..); err.value. -/
namespace Tg
open PySem PySem.Spec PyProof.Rows L2
section
variable {X : Cx}
/-- a reading, widened -/
def tMo (t : TE) : TE := fun σ H Q => ∃ Q' : VK, t σ H Q' ∧ ∀ v H', Q' v H' → Q v H'
theorem pe_mo {e : Expr} {t : TE} (h : PE X e t) : PE X e (tMo t) := by
  constructor
  rintro pins s σ H Q I ⟨Q', q, imp⟩
  refine thn (h.run pins s σ H Q' I q) ?_
  rintro u s1 ⟨v, H1, I1, r, q1⟩
  exact ⟨v, H1, I1, r, imp v H1 q1⟩
theorem upd_back {H1 : Hp} {a dx : Addr} {o1 o2 o3 u : HO} (na : H1 a = none) (ne : dx ≠ a) : upd (L2.del (upd (upd (upd H1 a o1) dx o2) a o3) a) dx u = upd H1 dx u := by
  funext b
  by_cases h1 : b = dx
  · subst h1
    rw [upd_same, upd_same]
  · rw [upd_ne h1, upd_ne h1]
    by_cases h2 : b = a
    · subst h2
      rw [del_same, na]
    · rw [del_ne h2, upd_ne h2, upd_ne h1, upd_ne h2]
/-- C(e), to be raised -/
def tRz (C : Addr) (te : TE) : L2.St → Hp → XK → Prop := fun σ H Q => te σ H fun v H1 => ∀ d, H1 d = none → Q (.ref C) (some d) (upd H1 d (.xd [("value", v)]))
theorem pmk_err {fI D C : Addr} {fd : FuncData} {x : Str} {e : Expr} {te : TE} {p pos : Pos} (EC : ErrC X.K fI D C) (T : IniT X.prog X.K X.mg fI D fd) (hr : Room 2 X.A) (hg : Gl X x) (hm : X.mg x = some (.ref C)) (hb : Binds X.K fd ["self", "value"] []) (he : PE X e te)
    (hdb : (x == ("__debug__" : Str)) = false := by decide) (hs : starEach [e] X.env = (false, eval e X.env) :: starEach [] X.env := by rfl) : PMk X (.Call (.Name x p) [e] [] pos) (tRz C te) := by
  intro pins s σ H Q I h
  refine pmk_oex (CX := CX0) (dvs := []) (ds := []) EC.ox EC.ini T.ty (ini_ok T) hr hb .nil pass0 hg hm (pa_cons (pe_mo he) pa_nil hs) hdb hs rfl pins s σ H Q I ?_
  refine ⟨_, h, fun v H1 q => ⟨by show 1 ≤ 1000; decide, fun a na => ?_⟩⟩
  refine ⟨a, C, v, rfl, EC, upd_same, fun dx hdx ne => ⟨rfl, dx, [("value", v)], upd_same, ?_, ?_, ?_⟩⟩
  · rw [upd_ne ne, upd_same]
  · rw [upd_ne ne] at hdx
    exact hdx
  · rw [upd_ne ne] at hdx
    rw [upd_back na ne]
    exact q dx hdx
/-- raise C(e) -/
theorem ps_raiseE {W : WX} {fI D C : Addr} {fd : FuncData} {x : Str} {e : Expr} {te : TE} {p pos pos' : Pos} (hc : X.calm = true) (tk : Takes X W) (EC : ErrC X.K fI D C) (T : IniT X.prog X.K X.mg fI D fd) (hr : Room 2 X.A) (hg : Gl X x) (hm : X.mg x = some (.ref C))
    (hb : Binds X.K fd ["self", "value"] []) (he : PE X e te) (hdb : (x == ("__debug__" : Str)) = false := by decide) (hs : starEach [e] X.env = (false, eval e X.env) :: starEach [] X.env := by rfl) :
    PS X (.Raise (some (.Call (.Name x p) [e] [] pos)) none pos') (fun _ σ H => te σ H fun v H1 => ∀ d, H1 d = none → W (.ref C) (some d) σ (upd H1 d (.xd [("value", v)]))) :=
  ps_raise hc tk (pmk_err EC T hr hg hm hb he hdb hs)

theorem exq_inst {P : Program} {w : World} {H : Hp} {h : Heap} {a C d : Addr} {fs : List (Str × V)} (ok : HOk P w H h) (e : H a = some (exq a C d)) (ed : H d = some (.xd fs)) :
    ∃ (oe od : Obj) (mA : Str → Option Value), PySem.W.InstAt h a oe C (some od) ∧ (∀ name, PySem.W.lookIn name od = some (mA name)) ∧ ∀ f, RelO (fs.lookup f) (mA f) := by
  obtain ⟨oe, vs, e1, z, hd⟩ := exq_at ok e
  obtain ⟨mA, ns, rel⟩ := (show ObjOk P w H h d (.xd fs) from ok d _ ed)
  obtain ⟨od, ho, hl⟩ := lookIn_ns ns
  exact ⟨oe, od, mA, ⟨e1, z.1, by unfold PySem.W.notCls; rw [hd] <;> rfl, by rw [z.2]; exact ho⟩, hl, rel⟩

/-- isinstance(err, c) -/
def rIsErr (K : PySem.W.Frag) : List V → Hp → VK → Prop := fun xs H Q => ∃ (a C : Addr) (v c : V) (cv : Value) (b : Bool), xs = [.ref a, c] ∧ Err H a C v ∧ ExcC K C ∧ ClsV c cv ∧ PySem.W.kitOne K (.ref C) cv = some b ∧ Q (.bl b) H
theorem call_isErr : CallR X (.builtin "isinstance") (rIsErr X.K) := by
  rintro pins s σ H xs us Q I rel ⟨a, C, v, c, cv, b, rfl, er, xc, hcv, hk, q⟩
  obtain ⟨ua, uc, rfl, ra, rc⟩ := vals2 rel
  obtain rfl : ua = Value.ref a := ra
  obtain rfl := hcv.eq rc
  obtain ⟨d, e1, e2⟩ := er.ex
  obtain ⟨oe, od, mA, J, _, _⟩ := exq_inst I.hok e1 e2
  exact PySem.W.kia_one (PySem.W.tg_kit xc) I.kIn ⟨oe, some od, J⟩ hk (fun z => nomatch z) fun tk => ⟨.bl b, H, I.kept (t' := tk) fun _ _ z => z, rfl, q⟩

/-- err.value -/
def tVal (K : PySem.W.Frag) (te : TE) : TE := fun σ H Q => te σ H fun x H1 => ∃ (a C : Addr) (v : V), x = .ref a ∧ Err H1 a C v ∧ ExcC K C ∧ PySem.W.findIn K (.ref C) "value" = some none ∧ Q v H1
theorem pe_value {e : Expr} {te : TE} {pos : Pos} (he : PE X e te) (hb : attributeBase e "value" X.env (eval e X.env) = eval e X.env := by rfl) : PE X (.Attribute e "value" pos) (tVal X.K te) := by
  constructor
  intro pins s σ H Q I h
  refine attr_of hb (thn (he.run pins s σ H _ I h) ?_)
  rintro u s1 ⟨x, H1, I1, rx, a, C, v, rfl, er, xc, no, q⟩
  obtain rfl : u = Value.ref a := rx
  obtain ⟨d, e1, e2⟩ := er.ex
  obtain ⟨oe, od, mA, J, hl, rel⟩ := exq_inst I1.hok e1 e2
  obtain ⟨w, hw, rw'⟩ := RelO.some_of (v := v) (o := mA "value") (by
    have z := rel "value"
    rw [show ([("value", v)] : List (Str × V)).lookup (Str.ofString "value") = some v from rfl] at z
    exact z)
  exact HandSPX.exc_get I1.kIn J xc.hg xc.hk xc.hs (PySem.W.findObj_own xc.hd no rfl (by rw [hl, hw])) (handed_of rw') ⟨v, H1, I1.tok _, rw', q⟩
end
end Tg
end
section
set_option Elab.async false
set_option linter.all false
set_option maxRecDepth 100000
set_option maxHeartbeats 4000000
/-! Tg, part H: data laid anew (displays), as readings ask for it. -/
namespace Tg
open PySem PySem.Spec PyProof.Rows L2

theorem len_ok {α : Type} {xs : List α} (h : xs.length ≤ 1000) : xs.length ≤ sizeLine := by rw [sizeLine_eq]; omega
theorem same_new {H : Hp} {p : Addr} {o : HO} (n : H p = none) : Same H (upd H p o) := fun b u e => by
  rw [upd_ne (ne_of_none e n)]
  exact e
theorem same_upd2 {H : Hp} {p : Addr} {o u : HO} (n : H p = none) : Same H (upd (upd H p o) p u) := fun b x e => by
  rw [upd_ne (ne_of_none e n), upd_ne (ne_of_none e n)]
  exact e
theorem Rp.same {H H' : Hp} {d : PyData} {v : V} (r : Rp H d v) (s : Same H H') : Rp H' d v := r.keep (Kp.same s)
theorem RpL.same {H H' : Hp} {ds : List PyData} {xs : List V} (r : RpL H ds xs) (s : Same H H') : RpL H' ds xs := RpL.keep (Kp.same s) ds xs r
theorem RpL.nil {H : Hp} : RpL H [] [] := by simp only [RpL]
theorem RpL.cons {H : Hp} {d : PyData} {v : V} {ds : List PyData} {xs : List V} (r : Rp H d v) (rs : RpL H ds xs) : RpL H (d :: ds) (v :: xs) := by
  simp only [RpL]
  exact ⟨v, xs, rfl, r, rs⟩
theorem Rp.non {H : Hp} : Rp H .none .non := by simp only [Rp]
theorem Rp.bl {H : Hp} {b : Bool} : Rp H (.bool b) (.bl b) := by simp only [Rp]
theorem Rp.int {H : Hp} {i : Int} : Rp H (.int i) (.int i) := by simp only [Rp]
theorem Rp.str {H : Hp} {x : Str} : Rp H (.str x) (.str x) := by simp only [Rp]
theorem Rp.tup {H : Hp} {a : Addr} {ds : List PyData} {xs : List V} (h : H a = some (.tup xs)) (r : RpL H ds xs) : Rp H (.tuple ds) (.ref a) := by
  simp only [Rp]
  exact ⟨a, xs, rfl, h, r⟩
theorem Rp.lst {H : Hp} {a : Addr} {o : Obj} {ds : List PyData} {xs : List V} (h : H a = some (.frz o (.lst xs))) (r : RpL H ds xs) : Rp H (.list ds) (.ref a) := by
  simp only [Rp]
  exact ⟨a, o, xs, rfl, h, r⟩
theorem Rp.dct {H : Hp} {a : Addr} {o : Obj} {kds : List (PyData × PyData)} {kvs : List (Key × V)} (h : H a = some (.frz o (.dK kvs))) (r : RpD H kds kvs) : Rp H (.dict kds) (.ref a) := by
  simp only [Rp]
  exact .inl ⟨a, o, kvs, rfl, h, r⟩
theorem RpD.nil {H : Hp} : RpD H [] [] := by simp only [RpD]
theorem RpD.cons {H : Hp} {k : Key} {d : PyData} {v : V} {kds : List (PyData × PyData)} {kvs : List (Key × V)} (r : Rp H d v) (rs : RpD H kds kvs) : RpD H ((kD k, d) :: kds) ((k, v) :: kvs) := by
  simp only [RpD]
  exact ⟨k, v, kvs, rfl, rfl, r, rs⟩

/-- a tuple -/
theorem g_tup {H : Hp} {p : Addr} {xs : List V} {ds : List PyData} (n : H p = none) (r : RpL H ds xs) : ∃ H1, upd H p (.tup xs) = H1 ∧ Same H H1 ∧ Rp H1 (.tuple ds) (.ref p) :=
  ⟨_, rfl, same_new n, Rp.tup upd_same (r.same (same_new n))⟩
/-- a list that is locked -/
theorem g_lst {H : Hp} {p : Addr} {o : Obj} {xs : List V} {ds : List PyData} (n : H p = none) (r : RpL H ds xs) : ∃ H1, upd (upd H p (.lst xs)) p (.frz o (.lst xs)) = H1 ∧ Same H H1 ∧ Rp H1 (.list ds) (.ref p) :=
  ⟨_, rfl, same_upd2 n, Rp.lst upd_same (r.same (same_upd2 n))⟩
/-- an empty dict that is locked -/
theorem g_dct0 {H : Hp} {p : Addr} {o : Obj} (n : H p = none) : ∃ H1, upd (upd H p (.dK [])) p (.frz o (.dK [])) = H1 ∧ Same H H1 ∧ Rp H1 (.dict []) (.ref p) :=
  ⟨_, rfl, same_upd2 n, Rp.dct upd_same RpD.nil⟩
/-- a list of the moment -/
theorem g_mut {H : Hp} {p : Addr} {xs : List V} (n : H p = none) : ∃ H1, upd H p (.lst xs) = H1 ∧ Same H H1 ∧ H1 p = some (.lst xs) := ⟨_, rfl, same_new n, upd_same⟩
/-- a dict of one pair that is locked; the value's reading led from the empty dict to H2 -/
theorem g_dct1 {H H2 : Hp} {p : Addr} {o : Obj} {k : Key} {v : V} {d : PyData} (n : H p = none) (s : Same (upd H p (.dK [])) H2) (r : Rp H2 d v) :
    ∃ H1, upd (upd H2 p (.dK (mergeK [] [(k, v)]))) p (.frz o (.dK (mergeK [] [(k, v)]))) = H1 ∧ Same H H1 ∧ Rp H1 (.dict [(kD k, d)]) (.ref p) := by
  have hp : H2 p = some (.dK []) := s p _ upd_same
  refine ⟨_, rfl, fun b x e => ?_, ?_⟩
  · have ne := ne_of_none e n
    rw [upd_ne ne, upd_ne ne]
    exact s b x (by rw [upd_ne ne]; exact e)
  · have kp : Kp H2 (upd (upd H2 p (.dK (mergeK [] [(k, v)]))) p (.frz o (.dK (mergeK [] [(k, v)])))) := by
      rw [upd_upd]
      exact Kp.put hp (fun _ _ z => nomatch z) (fun _ z => nomatch z)
    exact Rp.dct (kvs := [(k, v)]) upd_same (RpD.cons (r.keep kp) RpD.nil)
end Tg
namespace Tg
open PySem PySem.Spec PyProof.Rows L2
/-- repr(e), the room told by a number -/
def rReprN (n : Nat) : List V → Hp → VK → Prop := fun xs H Q => ∃ (d : PyData) (v : V), xs = [v] ∧ Rp H d v ∧ d.showable = true ∧ d.shown.length ≤ sizeLine ∧ n + d.depth + 2 < cLine ∧ Q (.str d.shown) H
theorem call_reprN {X : Cx} {n : Nat} (hg : X.A.guards = some []) (hn : X.A.units ≤ n) : CallR X (.builtin "repr") (rReprN n) := by
  rintro pins s σ H xs us Q I rel ⟨d, v, e, r, hs, hz, hu, q⟩
  exact call_reprD hg pins s σ H xs us Q I rel ⟨d, v, e, r, hs, hz, by omega, q⟩
theorem room_units {k : Nat} {A : Around} (hr : Room k A) : ∃ U, A.units ≤ U ∧ U + 200 < cLine := ⟨_, Nat.le_refl _, by have := hr.un; omega⟩
end Tg
end
section
set_option Elab.async false
set_option linter.all false
set_option maxRecDepth 100000
set_option maxHeartbeats 4000000
/-! Tg, part I: isinstance of data; the dict {None: 1}: its display, its pairs. -/
namespace Tg
open PySem PySem.Spec PyProof.Rows L2

/-- the type of data -/
def tyD : PyData → Value
  | .none => .type "NoneType"
  | .bool _ => .type "bool"
  | .int _ => .type "int"
  | .str _ => .type "str"
  | .list _ => .type "list"
  | .tuple _ => .type "tuple"
  | .dict _ => .type "dict"
section
variable {X : Cx} {pins : List (Addr × Obj)} {σ : L2.St} {H : Hp} {s : Shared}
theorem kit_rp {x : V} {u : Value} {d : PyData} (I : Inv X pins σ H s) (rx : RelV x u) (r : Rp H d x) : ∃ P : Heap → Prop, PySem.W.KitX X.K u (tyD d) P ∧ P s.heap ∧ u ≠ .builtin "__main__.__loader__#opaque" := by
  cases d with
  | none => simp only [Rp] at r; subst r; exact kit_of I rx (.base .non)
  | bool b => simp only [Rp] at r; subst r; exact kit_of I rx (.base (.bl b))
  | int i => simp only [Rp] at r; subst r; exact kit_of I rx (.base (.int i))
  | str z => simp only [Rp] at r; subst r; exact kit_of I rx (.base (.str z))
  | list ds =>
    simp only [Rp] at r
    obtain ⟨a, o, xs, rfl, ha, _⟩ := r
    exact kit_of I rx (.base (.frz ha))
  | tuple ds =>
    simp only [Rp] at r
    obtain ⟨a, xs, rfl, ha, _⟩ := r
    exact kit_of I rx (.base (.tup ha))
  | dict kds =>
    simp only [Rp] at r
    rcases r with ⟨a, o, kvs, rfl, ha, _⟩ | ⟨rfl, a, o, rfl, ha, no, _⟩
    · exact kit_of I rx (.fDict ha)
    · cases (show u = Value.ref a from rx)
      obtain ⟨e1, e2, _⟩ := non_at I.hok ha no
      exact ⟨_, PySem.W.kitx_dict, ⟨o, e1, e2⟩, fun z => nomatch z⟩
end
section
variable {X : Cx}
/-- isinstance(data, c) -/
def rIsD (K : PySem.W.Frag) : List V → Hp → VK → Prop := fun xs H Q => ∃ (x c : V) (d : PyData) (u : Value) (b : Bool), xs = [x, c] ∧ ClsV c u ∧ Rp H d x ∧ PySem.W.kitOne K (tyD d) u = some b ∧ Q (.bl b) H
theorem call_isD : CallR X (.builtin "isinstance") (rIsD X.K) := by
  intro pins s σ H xs us Q I r h
  obtain ⟨x, c, d, u, b, rfl, k, ty, e, q⟩ := h
  obtain ⟨u1, u2, rfl, r1, r2⟩ := vals2 r
  have e2 := k.eq r2
  subst e2
  obtain ⟨P, Z, p, hx⟩ := kit_rp I r1 ty
  exact PySem.W.kia_one Z I.kIn p e hx fun tk => ⟨.bl b, H, I.tok tk, rfl, q⟩
/-- isinstance(data, (c1, c2, ..)) -/
def rIsDT (K : PySem.W.Frag) : List V → Hp → VK → Prop := fun xs H Q => ∃ (x : V) (tp : Addr) (cs : List V) (d : PyData) (us : List Value) (b : Bool), xs = [x, .ref tp] ∧ H tp = some (.tup cs) ∧ Paired ClsV cs us ∧ Rp H d x ∧ PySem.W.kitAny K (tyD d) us = some b ∧ Q (.bl b) H
theorem call_isDT : CallR X (.builtin "isinstance") (rIsDT X.K) := by
  intro pins s σ H xs us Q I r h
  obtain ⟨x, tp, cs, d, ws, b, rfl, hT, k, ty, e, q⟩ := h
  obtain ⟨u1, u2, rfl, r1, r2⟩ := vals2 r
  cases (show u2 = Value.ref tp from r2)
  obtain ⟨P, Z, p, hx⟩ := kit_rp I r1 ty
  obtain ⟨_, its, rv, o, h1, h2, n, h3⟩ := (show ObjOk X.prog X.w H s.heap tp (.tup cs) from I.hok tp _ hT)
  have e3 := ClsV.all k rv
  subst e3
  obtain ⟨oc, od, dt, sl⟩ := o
  simp only at h2 h3
  subst h2 h3
  exact PySem.W.kia_tup Z I.kIn p h1 e hx fun tk => ⟨.bl b, H, I.tok tk, rfl, q⟩

/-! ### {None: 1} -/
def tNone1 (trs : List (TE × TE)) : TE := fun σ H Q => ∀ p, H p = none → tPairs trs σ (upd H p (.dK [])) fun ps H2 => H2 p = some (.dK []) ∧ ps = [(.non, .int 1)] ∧ ∀ o, NonO o → (p == sysModules) = false → Q (.ref p) (upd H2 p (.frz o (NDh p o)))
theorem pe_none1 {pos : Pos} {keys : List (Option Expr)} {values : List Expr} {trs : List (TE × TE)} (h : PPs X pos keys values trs) (hall : keys.all (·.isSome) = true) (hl : keys.length = values.length) (h0 : keys ≠ [])
    (h15 : keys.length ≤ 15) : PE X (.Dict keys values pos) (tNone1 trs) := by
  refine ⟨fun pins s σ H Q I q => ?_⟩
  have hn := I.hok.fresh (Nat.le_refl s.heap.objs.size)
  have I1 := I.laid (a := s.heap.objs.size) (o := .dK []) (h' := s.heap.push { cls := .type "dict", data := .dict #[] }) (t' := s.toks) (fun _ _ q => Heap.get?_push_of_some _ q) (Nat.le_refl _) (dk_empty s.heap I.big)
  refine wpAny_Dict_walk (knd := leafKind X.prog X.w) hall hl h0 h15 (thn (h.run pins _ σ _ _ I1 (q _ hn)) fun ws s2 ⟨ps, H2, I2, rel, e, ep, q2⟩ => ?_)
  subst ep
  obtain ⟨z, hd, vs0, r0, dd⟩ := dk_of I2.hok e
  cases r0
  cases rel with
  | @cons _ w1 _ ws1 r1 rr =>
    cases rr
    obtain ⟨k1, v1⟩ := w1
    obtain ⟨r1, r2⟩ := r1
    cases (show k1 = Value.none from r1)
    obtain ⟨t, rfl⟩ := (show ∃ t, v1 = Value.int 1 t from r2)
    have d0 : s2.heap.DictOf (leafKind X.prog X.w) s.heap.objs.size [] := by
      obtain ⟨o, es, ep, a1, a2, a3, _, a5, _⟩ := dd
      cases hes : es.toList with
      | nil =>
        have ee : es = #[] := Array.toList_inj.mp (by rw [hes])
        subst ee
        exact ⟨o, #[], ep, a1, a2, a3, fun e he => absurd he (by simp), .nil, List.nodup_nil⟩
      | cons x y => rw [hes] at a5; cases a5
    refine ⟨[(Leaf.none, .int 1 t)], ⟨rfl, rfl, True.intro⟩, d0, fun h' dd' hs => ?_⟩
    obtain ⟨o, es, ep, a1, a2, a3, a4, a5, _⟩ := dd'
    have no : NonO o := by
      cases hes : es.toList with
      | nil => rw [hes] at a5; cases a5
      | cons x y =>
        rw [hes] at a5
        cases a5 with
        | cons p1 p2 p3 =>
          cases p3
          obtain ⟨k, k1, k2⟩ := a4 x (by rw [← Array.mem_toList_iff, hes]; exact List.mem_singleton.mpr rfl)
          obtain ⟨hx, kx, vx⟩ := x
          simp only at p1 p2 k1 k2
          subst p2
          have kn : kx = Value.none := by
            cases kx <;> first | rfl | cases p1
          subst kn
          have kl : k = Leaf.none := by
            cases k with
            | none => rfl
            | num i => cases k1
            | text z => cases k1
          subst kl
          refine ⟨a2, ep, t, ?_⟩
          rw [a3]
          have ee : es = #[⟨hx, .none, .int 1 t⟩] := Array.toList_inj.mp (by rw [hes])
          rw [ee, k2]
          rfl
    refine ⟨.ref s.heap.objs.size, _, ?_, rfl, q2 o no hd⟩
    exact d_write I2 (by rw [e]; exact True.intro) hs ⟨o, a1⟩ ⟨a1, a1, ⟨o, a1⟩, fun h1 h2 e1 st => st _ e1⟩
end
end Tg
end
section
set_option Elab.async false
set_option linter.all false
set_option maxRecDepth 100000
set_option maxHeartbeats 4000000
/-! Tg, part J: the pairs of a dict that is data. -/
namespace Tg
open PySem PySem.Spec PyProof.Rows L2
/-- the one pair of {None: 1}, a new tuple -/
def ItN (d : Addr) (o : Obj) : It :=
  ⟨fun i H => (H d = some (.frz o (NDh d o)) ∧ NonO o ∧ (d == sysModules) = false) ∧ i < 1, fun i H x H' => ∃ T, x = .ref T ∧ H T = none ∧ H' = upd H T (.tup [.non, .int 1]), fun i H => (H d = some (.frz o (NDh d o)) ∧ NonO o ∧ (d == sysModules) = false) ∧ 1 ≤ i⟩
theorem walk_itemsN {d : Addr} {o : Obj} : Walk (ItN d o) 1 (fun H => H d = some (.frz o (NDh d o)) ∧ NonO o ∧ (d == sysModules) = false) (fun i H x H' => ∃ T, x = .ref T ∧ H T = none ∧ H' = upd H T (.tup [.non, .int 1])) :=
  ⟨fun _ _ hi q => ⟨q, hi⟩, fun _ q => ⟨q, Nat.le_refl _⟩, fun _ _ _ _ _ _ y => y⟩
section
variable {X : Cx} {pins : List (Addr × Obj)} {σ : L2.St} {H : Hp} {s : Shared}
theorem non_dict {P : Program} {w : World} {h : Heap} {d : Addr} {o : Obj} {ep : Nat} {t : Tok} (e : h.get? d = some o) (x : o.ExactDict) (dd : o.data = .dict #[⟨hNone, .none, .int 1 t⟩] ep) : h.DictAt (leafKind P w) d [(Leaf.none, .int 1 t)] ep :=
  ⟨o, _, e, x, dd, fun en he => by
    have q : en = ⟨hNone, .none, .int 1 t⟩ := by simpa using he
    subst q
    exact ⟨Leaf.none, rfl, rfl⟩, .cons rfl rfl .nil, by simp⟩
end
section
variable {P : Program} {w : World} {K : PySem.W.Frag} {d : Addr} {o : Obj} {ep : Nat} {t : Tok}
theorem turn_itemsN {elts : List Expr} {kk : Nat} {tpos : Pos} (it : Addr) (hod : o.data = .dict #[⟨hNone, .none, .int 1 t⟩] ep) :
    Turn P w K (.Tuple elts kk tpos) (ItN d o) [it] it (fun i h => ∃ ok ov, IsItemIter h it d i 1 ep ok ov) where
  mem := by simp
  obj := fun i h st b hb => by
    have e : b = it := by simpa using hb
    subst e
    obtain ⟨ok, ov, e⟩ := st
    exact ⟨_, e, fun v z => nomatch z⟩
  keep := fun i h h' st k => let ⟨ok, ov, e⟩ := st; ⟨ok, ov, k it (by simp) _ e⟩
  item := by
    intro X hP hw hK hc i pins s σ H E I hf st hg
    subst hP hw hK
    obtain ⟨⟨hd, no, sm⟩, hi⟩ := hg
    obtain ⟨e1, _⟩ := I.hok d _ hd
    have hm := non_dict (P := X.prog) (w := X.w) e1 no.1 hod
    have hi0 : i = 0 := by omega
    subst hi0
    obtain ⟨ok, ov, he⟩ := st
    have hlt : it < s.heap.objs.size := Heap.lt_size he
    refine wpAny_pyNext_items_item (kvs := [(Leaf.none, .int 1 t)]) he hm rfl fun key h' hkey ho hT hz hk => ?_
    have kn : key = Value.none := by
      cases key <;> first | rfl | cases hkey
    subst kn
    refine ⟨_, rfl, wpAny_letOwnedTupleGo_items (s := { s with heap := h' }) ho fun h'' he' sb => ?_⟩
    have hT2 : h''.get? s.heap.objs.size = some { cls := .type "tuple", data := .seq #[.none, .int 1 t] } := (sb.2 _ (Nat.ne_of_gt hlt)).trans hT
    have new : ObjOk X.prog X.w (upd H s.heap.objs.size (.tup [.non, .int 1])) h'' s.heap.objs.size (.tup [.non, .int 1]) :=
      ⟨by show 2 ≤ sizeLine; decide, [.none, .int 1 t], .cons rfl (.cons ⟨_, rfl⟩ .nil), ⟨_, hT2, rfl, _, rfl⟩⟩
    have I1 : Inv X pins σ (upd H s.heap.objs.size (.tup [.non, .int 1])) { s with heap := h'' } :=
      I.turnedNew (t' := s.toks) (ch := [it]) (fun b ob hb e => (sb.2 b (by simpa using hb)).trans (hk b ob (by simpa using hb) e)) hf (Nat.le_refl _) new
    refine ⟨.ref s.heap.objs.size, _, I1, rfl, ⟨_, rfl, I.hok.fresh (Nat.le_refl _), rfl⟩, ⟨.none, .int 1 t, he'⟩, fun b hb => ?_⟩
    have e : b = it := by simpa using hb
    rw [e, upd_ne (Nat.ne_of_lt hlt)]
    exact (hf it (by simp)).1
  done := by
    intro X hP hw hK hc i pins s σ H E I hf st hg
    subst hP hw hK
    obtain ⟨⟨hd, no, sm⟩, hi⟩ := hg
    obtain ⟨f0, f1, f2, f3, f4, f5⟩ := hf it (by simp)
    obtain ⟨e1, _⟩ := I.hok d _ hd
    have hm := non_dict (P := X.prog) (w := X.w) e1 no.1 hod
    obtain ⟨ok, ov, he⟩ := st
    exact wpAny_pyNext_items_end (kvs := [(Leaf.none, .int 1 t)]) (I.ok.hd hc) he hm (List.getElem?_eq_none (by simpa using hi)) fun h' eb => ⟨rfl, I.turned (t' := s.toks) (fun b ob hb e => eb b ob hb e) f0 f1 f3 f4 f5⟩
  self := fun A i s Q E st h => let ⟨_, _, e⟩ := st; PySem.W.kcp_self e h
end
section
variable {X : Cx} {e : Expr} {td : TE} {apos cpos : Pos}
/-- d.items() of a dict that is data -/
def iItemsN (td : TE) : TI := fun σ H R => td σ H fun x H1 => ∃ d o, x = .ref d ∧ ((∃ kvs, H1 d = some (.frz o (.dK kvs)) ∧ R (Iti d o kvs) H1) ∨ (H1 d = some (.frz o (NDh d o)) ∧ NonO o ∧ (d == sysModules) = false ∧ R (ItN d o) H1))
theorem pi_itemsN {elts : List Expr} {kk : Nat} {tpos : Pos} (he : PE X e td) (hbase : attributeBase e "items" X.env (eval e X.env) = eval e X.env := by rfl) (hline : (apos.endLine == cpos.line) = true := by rfl) :
    PI X (.Tuple elts kk tpos) (.Call (.Attribute e "items" apos) [] [] cpos) (iItemsN td) := by
  refine ⟨fun pins s σ H R I h => ?_⟩
  refine wpAny_Call_method (T := "dict") (id := "dict.items") hbase rfl hline F.plainAttrs_dict F.slot_dict_items F.type_dict_items (thn (he.run pins s σ H _ I h) fun u s1 ⟨x, H1, I1, rx, d, o, ex, hh⟩ => ?_)
  subst ex
  obtain rfl : u = Value.ref d := rx
  have I2 : Inv X pins σ H1 { s1 with heap := s1.heap.push { cls := .type "dict_items", data := .fields #[.ref d] } } := I1.kept (t' := s1.toks) fun b ob q => Heap.get?_push_of_some _ q
  rcases hh with ⟨kvs, hd, q⟩ | ⟨hd, no, sm, q⟩
  · obtain ⟨hs, hgd, hx, es, ep, vs, hdt, hsz, kv, hm⟩ := I1.frzK hd
    have hl : kvs.length = vs.length := Paired.length kv
    refine ⟨hm.dictOf.typeIs, hm.dictOf.mapOf.noDict, ?_⟩
    have fin : wpAny (model X.prog X.w) X.A (pyIter (.ref s1.heap.objs.size)) (PIE X pins σ (.Tuple elts kk tpos) R) X.xe { s1 with heap := s1.heap.push { cls := .type "dict_items", data := .fields #[.ref d] } } := by
      refine wpAny_pyIter_items (d := d) (knd := mixKind X.prog X.w) ⟨_, Heap.get?_push_size _ rfl, rfl, rfl⟩ (hm.push _) (pi_one (tk := s1.toks) I2 _ (turn_items _ hdt) ⟨.none, .none, ?_⟩ q)
      rw [hl]
      exact Heap.get?_push_size _ rfl
    show wpAny _ _ (callWith cpos (.builtin "dict.items") [.ref d] [] []) _ X.xe s1
    exact method_meetsIn F.slot_dict_items F.entry_dict_items rfl (PySem.evalArgs_none ⟨rfl, hm.dictOf.typeIs, F.args_dict_items_1 _, _, meets_dict_items (mixKind X.prog X.w) d hs, ⟨vs, hm.dictOf⟩, fin⟩)
  · obtain ⟨e1, _⟩ := I1.hok d _ hd
    obtain ⟨x, ep, t, dd⟩ := id no
    have hm := non_dict (P := X.prog) (w := X.w) e1 x dd
    refine ⟨hm.dictOf.typeIs, hm.dictOf.mapOf.noDict, ?_⟩
    have fin : wpAny (model X.prog X.w) X.A (pyIter (.ref s1.heap.objs.size)) (PIE X pins σ (.Tuple elts kk tpos) R) X.xe { s1 with heap := s1.heap.push { cls := .type "dict_items", data := .fields #[.ref d] } } := by
      refine wpAny_pyIter_items (d := d) (knd := leafKind X.prog X.w) ⟨_, Heap.get?_push_size _ rfl, rfl, rfl⟩ (hm.push _) (pi_one (tk := s1.toks) I2 _ (turn_itemsN _ dd) ⟨.none, .none, ?_⟩ q)
      exact Heap.get?_push_size _ rfl
    show wpAny _ _ (callWith cpos (.builtin "dict.items") [.ref d] [] []) _ X.xe s1
    exact method_meetsIn F.slot_dict_items F.entry_dict_items rfl (PySem.evalArgs_none ⟨rfl, hm.dictOf.typeIs, F.args_dict_items_1 _, _, meets_dict_items (leafKind X.prog X.w) d sm, ⟨_, hm.dictOf⟩, fin⟩)
end
end Tg
end
section
set_option Elab.async false
set_option linter.all false
set_option maxRecDepth 100000
set_option maxHeartbeats 4000000
/-! Tg, part K: an error that was caught and is kept. -/
namespace Tg
open PySem PySem.Spec PyProof.Rows L2
section
variable {X : Cx} {pins : List (Addr × Obj)} {σ : L2.St} {H : Hp} {s : Shared}
/-- an error that came since the def was entered is known from now on -/
theorem inv_track (I : Inv X pins σ H s) {a C dd : Addr} {oe : Obj} {vs : Array Value} (e : s.heap.get? a = some oe) (z : Zc (.ref C) (some dd) oe) (hd : oe.data = .fields vs) (na : H a = none) (n0 : X.s_0.heap.get? a = none) (nL : a ≠ X.env.locals)
    (np : ∀ p ∈ X.pn ++ pins, p.1 ≠ a) : Inv X pins σ (upd H a (exq a C dd)) s := by
  have st : ∀ b u, H b = some u → upd H a (exq a C dd) b = some u := fun b u q => by
    rw [upd_ne (ne_of_none q na)]
    exact q
  refine ⟨I.ok, I.os, I.bare, ⟨I.base.keep, I.base.slot, fun b o q n hx => ?_, I.base.there, fun b xs q => st _ _ (I.base.tups b xs q), fun b o u q => st _ _ (I.base.frzs b o u q), fun b ps q => ?_⟩, I.loc, I.cell, ?_, fun x c q => ?_, fun p hp => ?_, fun b u q => ?_, I.len⟩
  · have nb : b ≠ a := fun q2 => by
      rw [q2, n0] at q
      cases q
    rw [upd_ne nb]
    exact I.base.free b o q n hx
  · obtain ⟨more, hm⟩ := I.base.tbls b ps q
    exact ⟨more, st _ _ hm⟩
  · rw [upd_ne nL.symm]
    exact I.free
  · have nc : c ≠ a := fun q2 => by
      obtain ⟨v, o, ho, hv⟩ := I.cell x c q
      rw [q2, e] at ho
      cases ho
      rw [hd] at hv
      cases hv
    rw [upd_ne nc]
    exact I.freeC x c q
  · obtain ⟨h1, h2, h3⟩ := I.pin p hp
    refine ⟨h1, ?_, h3⟩
    rw [upd_ne (np p hp)]
    exact h2
  · by_cases hb : b = a
    · rw [hb, upd_same] at q
      cases q
      rw [hb]
      exact exq_ok e z hd
    · rw [upd_ne hb] at q
      exact (I.hok b u q).stay (fun _ _ _ r => r) (fun d r => st _ _ r) fun d xs r => st _ _ r
end
/-- what an except clause that keeps the error makes of an exception -/
def wKeep (K : PySem.W.Frag) (c : Value) (m i : Nat) (ts : Addr → Value → Option Addr → TS) (Wout : WX) (D : Ends) : WX := fun cls d σ H => σ.length = m →
  ∃ b, PySem.W.exmOne K cls c = some b ∧ (b = true → ∃ C dd, cls = .ref C ∧ d = some dd ∧ ∀ a, H a = none → ts a cls d { nx := fun σ' H' => D.nx (σ'.set i none) (upd H' a (exq a C dd)), rt := fun _ _ => False, bk := fun _ _ => False, ct := fun _ _ => False } (σ.set i (some (.ref a))) H) ∧
    (b = false → Wout cls d σ H)
section
variable {X : Cx} {x n : Str} {c : Value} {i : Nat} {body suite : List Stmt} {b₀ : Stmt} {np pos pos' : Pos} {tb : WX → TS} {ts : Addr → Value → Option Addr → TS}
/-- try: body / except x as n: suite, where the suite runs to its end and the error stays known -/
theorem ps_try_keep (hs : X.stack = X.env :: X.outer) (hf : X.env.frame = some X.env.locals) (hN : X.N.Nodup) (hi : X.N[i]? = some n) (hln : X.env.kindOf n = some .local) (hc : Names X x c) (hex : X.ex = [])
    (hb : ∀ (W : WX) (pn : List (Addr × Obj)) (xe : Value → Shared → Prop), Takes (X.tr pn xe) W → PassesOwn (model X.prog X.w) X.A X.env xe → PSs (X.tr pn xe) body (tb W))
    (hsu : ∀ (a : Addr) (oe : Obj) (cls : Value) (d : Option Addr) (pn : List (Addr × Obj)), Zc cls d oe → (∃ vs, oe.data = .fields vs) → PSs (X.suite a ((a, oe) :: pn)) (b₀ :: suite) (ts a cls d)) :
    PS X (.Try body [.ExceptHandler (some (.Name x np)) (some n) (b₀ :: suite) pos'] [] [] pos) (fun D σ H => tb (wKeep X.K c X.N.length i ts (fun _ _ _ _ => False) D) D σ H) := by
  refine ⟨fun pins s σ H D I h => ?_⟩
  have ok := I.ok
  have hfr : X.A.frames = some (X.env :: X.outer) := by rw [ok.frames, hs]
  refine wpAny_Try_except ?_
  refine wpAny_mono ((hb (wKeep X.K c X.N.length i ts (fun _ _ _ _ => False) D) (X.pn ++ pins) (fun e s₁ => wpAny (model X.prog X.w) X.A (noteFrame e X.env) (fun _ s₂ => wpAny (model X.prog X.w) X.A (setFlight e none) (fun _ s₃ =>
    wpAny (model X.prog X.w) X.A (handleBy e X.env [.ExceptHandler (some (.Name x np)) (some n) (b₀ :: suite) pos']) (SP X pins D) X.xe s₃) X.xe s₂) X.xe s₁) (fun u s' xx => ?_) PassesOwn.looking).run [] s σ H D (I.toTry _) h) (fun f s1 hsp => ?_) (fun e s1 he => he)
  · obtain ⟨a, B, sI, pins', σ', H', cls, d, rfl, J', nb, up, sky, na, os, ag, wk⟩ := xx
    obtain ⟨b, hb1, hyes, hno⟩ := wk J'.len
    have J : Inv X pins σ' H' sI := J'.ofTry ok
    have Ba : B.get? a = none := by
      rcases sky with q | q | q
      · exact q.2.1
      · exact q.2.1
      · exact q.2.1
    have sky' : Sky B (X.env :: X.outer) a (Zc cls d) X.env.locals s'.heap := by rw [← hs]; exact sky
    show wpAny (model X.prog X.w) X.A (noteFrame (.ref a) X.env) _ _ _
    refine Sky.land Zc.steady hfr hf sky' fun h3 fl3 up3 => ?_
    have J3 : Inv X pins σ' H' { s' with heap := h3 } := J.landed nb fl3.1 (up.trans up3) os ag
    obtain ⟨oe3, vs3, he3, hz3, hd3⟩ := fl3.there
    have nfr : a ∉ frs (X.env :: X.outer) := fun hm => by
      obtain ⟨_, o', e', hnf⟩ := fl3.2.2.1.mem hm
      rw [he3] at e'
      cases e'
      exact hnf _ hd3
    have nL : a ≠ X.env.locals := fun z => nfr (List.mem_filterMap.mpr ⟨X.env, List.mem_cons_self, by rw [hf, z]⟩)
    have nF : a ∉ X.fs := fun hm => by
      obtain ⟨e, he, q⟩ := List.mem_filterMap.mp hm
      exact nfr (List.mem_filterMap.mpr ⟨e, List.mem_cons_of_mem _ he, q⟩)
    have nI : sI.heap.get? a = none := by
      cases q : sI.heap.get? a with
      | none => rfl
      | some o =>
        rw [nb a o q (by rw [hs]; exact nfr)] at Ba
        cases Ba
    have n0 : X.s_0.heap.get? a = none := by
      cases q : X.s_0.heap.get? a with
      | none => rfl
      | some o =>
        obtain ⟨o', q'⟩ := J.base.there a o q (by rw [hex]; exact List.not_mem_nil)
        rw [nI] at q'
        cases q'
    have npn : ∀ p ∈ X.pn ++ pins, p.1 ≠ a := fun p hp z => by
      have q := (J.pin p hp).1
      rw [z, nI] at q
      cases q
    have S3 := J3.suite he3 hd3 na nL nF
    refine wpAny_handleBy_cons (codeAny_handlers_test ?_) (by intro q; cases q)
    have LT : PySem.W.Looks (model X.prog X.w) h3 (typeOf (.ref a)) cls := fun A Q E s k q => wpAny_typeOf_ref (k _ _ he3) (by rw [hz3.1]; exact q)
    have LM := PySem.W.exm_one (M := model X.prog X.w) (J3.kIn) LT hb1
    have test : ∀ {Q : Value → Shared → Prop} {E : Value → Shared → Prop}, Q c { s' with heap := h3 } → wpAny (model X.prog X.w) (X.A.mark (some (.ref a))) (eval (.Name x np) X.env) Q E { s' with heap := h3 } := fun {Q E} q => by
      obtain ⟨hg, hdbg, hm | ⟨hm, hv, hnn⟩⟩ := hc
      · exact ld_glob (X := X.suite a ((a, oe3) :: (X.pn ++ pins))) S3 hg hm q hdbg
      · exact ld_blt (X := X.suite a ((a, oe3) :: (X.pn ++ pins))) S3 hg hm hv q hnn hdbg
    refine test (LM.here ?_)
    cases b with
    | false => exact (hno rfl).elim
    | true =>
      obtain ⟨C, dd, rfl, rfl, hyes⟩ := hyes rfl
      refine codeAny_handlers_suite_as ?_
      refine HandSPX.lands_againZ fl3 fun h4 fl4 up4 => ?_
      have J4 : Inv X pins σ' H' { s' with heap := h4 } := J.landed nb fl4.1 ((up.trans up3).trans up4) os ag
      obtain ⟨oe4, vs4, he4, hz4, hd4⟩ := fl4.there
      have S4 := J4.suite he4 hd4 na nL nF
      refine store_ok (X := X.suite a ((a, oe4) :: (X.pn ++ pins))) (v := .ref a) S4 hN hi (.inl hln) rfl (fun s5 S5 => ?_) (.inr hln)
      refine wpAny_mono ((hsu a oe4 (.ref C) (some dd) (X.pn ++ pins) hz4 ⟨_, hd4⟩).run [] s5 _ H' _ S5 (hyes a na)) (fun f s6 hsp => ?_) (fun _ _ z => False.elim z)
      cases f with
      | next =>
        obtain ⟨σ6, H6, S6, q6⟩ := hsp
        obtain ⟨g1, g2, _⟩ := S6.pin (a, oe4) (List.mem_append_left _ List.mem_cons_self)
        have J6 := inv_track (S6.unsuite ok) g1 hz4 hd4 g2 n0 nL npn
        exact gone_ok J6 hN hi hln fun s7 J7 => ⟨_, _, J7, q6⟩
      | brk =>
        obtain ⟨σ6, H6, S6, q6⟩ := hsp
        exact (show False from q6).elim
      | cont =>
        obtain ⟨σ6, H6, S6, q6⟩ := hsp
        exact (show False from q6).elim
      | ret u =>
        obtain ⟨v6, σ6, H6, S6, r6, q6⟩ := hsp
        exact (show False from q6).elim
  · cases f with
    | next =>
      obtain ⟨σ', H', J', q⟩ := hsp
      exact wpAny_execs_nil ⟨σ', H', J'.ofTry ok, q⟩
    | brk =>
      obtain ⟨σ', H', J', q⟩ := hsp
      exact ⟨σ', H', J'.ofTry ok, q⟩
    | cont =>
      obtain ⟨σ', H', J', q⟩ := hsp
      exact ⟨σ', H', J'.ofTry ok, q⟩
    | ret u =>
      obtain ⟨v, σ', H', J', r, q⟩ := hsp
      exact ⟨v, σ', H', J'.ofTry ok, r, q⟩
end
end Tg
end
section
set_option Elab.async false
set_option linter.all false
set_option maxRecDepth 100000
set_option maxHeartbeats 4000000
/-! Tg, part L: the end of a law whose defs make lambdas (tables of code objects), for FnG. -/
namespace Tg
open PySem PySem.Spec PyProof.Rows L2 LamX
/-- the law's def over the heap behind the top; cs: code objects with their tables -/
theorem lawGT {P : Program} {w : World} {K : PySem.W.Frag} {mg mb : Str → Option Value} {CX : CXT} {k : Nat} {fa a : Addr} {fd : FuncData} {x : Str} {sp : Sp} {s₁ : Shared} {us : List Value} {ns : List Int} {cs : List (Addr × Addr)}
    (inK : K.In s₁.heap) (gns : s₁.heap.Ns mainGlobals mg) (bns : s₁.heap.Ns builtinsNs mb) (bbt : ∀ x : Str, x ≠ "__name__" → mb x = bootBuiltins x) (lim : s₁.heap.NoLimit) (gens : s₁.gens = #[])
    (tab : ∀ p ∈ cs, s₁.heap.get? p.2 = some { cls := .none, data := .fields #[] }) (tabK : ∀ p ∈ cs, K.lookup p.2 = none) (code : ∀ p ∈ cs, PySem.W.CodeHd s₁.heap p.1 p.2)
    (bmod : ∃ (bm : Addr) (ob : Obj), mg "__builtins__" = some (.ref bm) ∧ bm ≠ builtinsNs ∧ s₁.heap.get? bm = some ob ∧ ob.cls = .type "module" ∧ ob.dict = some builtinsNs ∧ ob.data = .plain)
    (ha : s₁.heap.get? a = some { cls := .type "list", data := .seq us.toArray }) (hi : IntsAre us ns) (hl : ns.length ≤ sizeLine) (room : Room k callerA)
    (F : ∀ base : Heap, K.In base → base.Ns mainGlobals mg → (∀ p ∈ cs, TabB base mg p.1 p.2) → FnG P w K mg base CX k fa fd [x] sp) (bnd : ∀ (s : Shared) (u : Value), BindsTo s fd ⟨[u], []⟩ [(x, u)])
    (hsp : ∀ H : Hp, (∀ p ∈ cs, H p.2 = some (.tbl #[])) → SqL K H a (ns.map V.int) → sp [.ref a] H (fun v _ => v = .bl true) fun _ _ _ => False)
    (noX : ∀ H e s', CX [] H s₁ (fun _ _ _ => False) e s' → False) :
    codeAny (model P w) callerA (.call (.ref fa) ⟨[.ref a], []⟩) (fun r s' => r = .ok (.ret (.bool true)) ∧ OldK s₁.heap s'.heap ∧ s'.os = s₁.os ∧ AllBare s'.gens) s₁ := by
  have relI : Vals (ns.map V.int) us := vals_ints hi
  have lenI := hi.length
  have tabAt : ∀ b, b ∈ cs.map (·.2) → s₁.heap.get? b = some { cls := .none, data := .fields #[] } := by
    intro b hb
    obtain ⟨p, hp, e⟩ := List.mem_map.mp hb
    subst e
    exact tab p hp
  have inT : ∀ p ∈ cs, p.2 ∈ cs.map (·.2) := fun p hp => List.mem_map.mpr ⟨p, hp, rfl⟩
  have aNo : a ∉ cs.map (·.2) := by
    intro z
    have q := (tabAt a z).symm.trans ha
    injection q with q
    injection q with _ _ q
    cases q
  suffices main : ∀ H : Hp, (∀ b, b ∈ cs.map (·.2) → H b = some (.tbl #[])) → SqL K H a (ns.map V.int) → HOk P w H s₁.heap → (∀ b u, H b = some u → b ∈ cs.map (·.2) ∨ (b = a ∧ ∃ o xs, u = .frz o (.lst xs) ∧ K.lookup a = none)) →
      codeAny (model P w) callerA (.call (.ref fa) ⟨[.ref a], []⟩) (fun r s' => r = .ok (.ret (.bool true)) ∧ OldK s₁.heap s'.heap ∧ s'.os = s₁.os ∧ AllBare s'.gens) s₁ by
    cases known : K.lookup a with
    | none =>
      let o : Obj := { cls := .type "list", data := .seq us.toArray }
      let H : Hp := fun b => if b = a then some (.frz o (.lst (ns.map V.int))) else if b ∈ cs.map (·.2) then some (.tbl #[]) else none
      have Ha : H a = some (.frz o (.lst (ns.map V.int))) := if_pos rfl
      have Hn : ∀ b, b ≠ a → H b = if b ∈ cs.map (·.2) then some (.tbl #[]) else none := fun b hb => if_neg hb
      apply main H
      · intro b hb
        rw [Hn b (fun z => aNo (z ▸ hb)), if_pos hb]
      · exact .inl (.inr ⟨o, Ha⟩)
      · intro b u z
        by_cases hb : b = a
        · subst hb
          rw [Ha] at z
          cases z
          exact ⟨ha, by rw [List.length_map]; exact hl, us, _, relI, ha⟩
        · rw [Hn b hb] at z
          by_cases ht : b ∈ cs.map (·.2)
          · rw [if_pos ht] at z
            cases z
            exact tabAt b ht
          · rw [if_neg ht] at z
            cases z
      · intro b u z
        by_cases hb : b = a
        · subst hb
          rw [Ha] at z
          cases z
          exact .inr ⟨rfl, _, _, rfl, known⟩
        · rw [Hn b hb] at z
          by_cases ht : b ∈ cs.map (·.2)
          · exact .inl ht
          · rw [if_neg ht] at z
            cases z
    | some o =>
      have e := inK a o known
      rw [ha] at e
      cases e
      apply main fun b => if b ∈ cs.map (·.2) then some (.tbl #[]) else none
      · exact fun b hb => if_pos hb
      · exact .inr ⟨_, us.toArray, _, known, rfl, rfl, rfl, by rw [List.size_toArray, lenI]; exact hl, by simpa using relI⟩
      · intro b u z
        by_cases ht : b ∈ cs.map (·.2)
        · have z' := (if_pos ht).symm.trans z
          cases z'
          exact tabAt b ht
        · have z' := (if_neg ht).symm.trans z
          cases z'
      · intro b u z
        by_cases ht : b ∈ cs.map (·.2)
        · exact .inl ht
        · have z' := (if_neg ht).symm.trans z
          cases z'
  intro H tabH sq hok who
  have kept : ∀ {b : Addr} {o : Obj}, s₁.heap.get? b = some o → H b = none → (hidT s₁.heap H).get? b = some o := fun e n => hidT_get e n
  have free : ∀ {b : Addr} {o : Obj}, s₁.heap.get? b = some o → (∀ vs n, o.data ≠ .seq vs n) → o.data ≠ .fields #[] → H b = none := by
    intro b o e n1 n2
    cases q : H b with
    | none => rfl
    | some u =>
      rcases who b u q with hb | ⟨hb, _⟩
      · rw [tabAt b hb] at e
        cases e
        exact absurd rfl n2
      · subst hb
        rw [ha] at e
        cases e
        exact absurd rfl (n1 _ _)
  have nsOf : ∀ {b : Addr} {m : Str → Option Value}, s₁.heap.Ns b m → (hidT s₁.heap H).Ns b m := by
    rintro b m ⟨o, es, ep, e, d, r⟩
    exact ⟨o, es, ep, kept e (free e (fun vs n z => by rw [d] at z; cases z) (fun z => by rw [d] at z; cases z)), d, r⟩
  have inB : K.In (hidT s₁.heap H) := by
    intro b o e
    apply kept (inK b o e)
    cases q : H b with
    | none => rfl
    | some u =>
      rcases who b u q with hb | ⟨hb, _, _, _, no⟩
      · obtain ⟨p, hp, ep⟩ := List.mem_map.mp hb
        subst ep
        rw [tabK p hp] at e
        cases e
      · subst hb
        rw [no] at e
        cases e
  have tabB : ∀ p ∈ cs, TabB (hidT s₁.heap H) mg p.1 p.2 := by
    intro p hp
    have tp := tab p hp
    constructor
    · obtain ⟨o, vs, file, tf, flags, tg, inF, text, tt, e1, r1, r2, r3, r⟩ := code p hp
      refine ⟨o, vs, file, tf, flags, tg, inF, text, tt, kept e1 (free e1 (fun vs n z => by rw [r2] at z; cases z) fun z => ?_), r1, r2, r3, r⟩
      rw [r2] at z
      cases z
      simp at r3
    · obtain ⟨bm, ob, b1, b2, b3, b4, b5, b6⟩ := bmod
      refine ⟨bm, ob, b1, b2, fun q => ?_, fun q => ?_, kept b3 (free b3 (fun vs n z => by rw [b6] at z; cases z) fun z => by rw [b6] at z; cases z), b4, b5, b6⟩
      · obtain ⟨o, es, ep, e, d, _⟩ := gns
        rw [q, e] at b3
        cases b3
        rw [d] at b6
        cases b6
      · rw [q, tp] at b3
        cases b3
        cases b6
    · intro q
      obtain ⟨o, es, ep, e, d, _⟩ := gns
      rw [q, tp] at e
      cases e
      cases d
  obtain ⟨mc, l1, l2⟩ := lim
  have md : L2.Mod K mg (hidT s₁.heap H) := ⟨inB, nsOf gns, ⟨mb, nsOf bns, bbt⟩, ⟨mc, nsOf l1, l2⟩⟩
  have none0 : ∀ b : Addr, b ∉ ([] : List Addr) := fun b => List.not_mem_nil
  have en : Env0 P w K mg (hidT s₁.heap H) callerA [] s₁ H :=
    ⟨rfl, md, fun b o e => of_hidT e, Nat.le_of_eq (hidT_size _ _), trivial, fun b hb => absurd hb (none0 b), hok, .of_eq gens⟩
  have ran := (F _ inB (nsOf gns) tabB).go callerA [] s₁ H ⟨[.ref a], []⟩ [.ref a] [.ref a] _ _ rfl room en (bnd s₁ (.ref a)) (.cons rfl .nil) (hsp H (fun p hp => tabH _ (inT p hp)) sq)
  refine codeAny_mono ran ?_
  intro r s' h
  match r, h with
  | .error er, h => exact (noX H er s' h).elim
  | .ok .next, h => exact False.elim h
  | .ok .brk, h => exact False.elim h
  | .ok .cont, h => exact False.elim h
  | .ok (.ret u), ⟨v, H', hos, bare, un, hok', rv, q⟩ =>
    have q' : v = .bl true := q
    subst q'
    have ru : u = Value.bool true := rv
    subst ru
    have rest : ∀ b o, b ∉ cs.map (·.2) → s₁.heap.get? b = some o → s'.heap.get? b = some o := by
      intro b o nb e
      cases z : H b with
      | none => exact un.keep b o e z (none0 b) (none0 b)
      | some u =>
        rcases who b u z with hb | ⟨hb, ob, xs, e0, _⟩
        · exact absurd hb nb
        · subst e0
          obtain ⟨e1, _⟩ := hok b _ z
          obtain ⟨e2, _⟩ := hok' b _ (un.frzs b ob _ z)
          exact e2.trans (e1.symm.trans e)
    have grew : ∀ p ∈ cs, ∃ more : Array Value, s'.heap.get? p.2 = some { cls := .none, data := .fields more } := by
      intro p hp
      obtain ⟨more, z⟩ := un.tbls p.2 #[] (tabH _ (inT p hp))
      exact ⟨_, hok' p.2 _ z⟩
    refine ⟨rfl, ⟨fun b o e => ?_, fun b o e => ?_⟩, hos, bare⟩ <;> by_cases hb : b ∈ cs.map (·.2)
    · obtain ⟨p, hp, ep⟩ := List.mem_map.mp hb
      subst ep
      obtain ⟨more, hm⟩ := grew p hp
      rw [tab p hp] at e
      cases e
      exact .inr (.inl ⟨((code p hp).tab (tab p hp)).isCodeTable, rfl, #[], more, rfl, by rw [Array.empty_append]; exact hm⟩)
    · exact .inl (rest b o hb e)
    · obtain ⟨p, hp, ep⟩ := List.mem_map.mp hb
      subst ep
      obtain ⟨more, hm⟩ := grew p hp
      exact ⟨_, hm⟩
    · exact ⟨o, rest b o hb e⟩
/-- what is known of the law at the head's heap h -/
def AtGT (l : PySem.W.OpenLaw) (w : World) (K : PySem.W.Frag) (CX : CXT) (k n : Nat) (x : Str) (mg : Str → Option Value) (fa : Addr) (h : Heap) : Prop :=
  ∃ (fd : FuncData) (cs : List (Addr × Addr)) (sp : Sp), (∀ p ∈ cs, h.get? p.2 = some { cls := .none, data := .fields #[] }) ∧ (∀ p ∈ cs, K.lookup p.2 = none) ∧ (∀ p ∈ cs, PySem.W.CodeHd h p.1 p.2) ∧ (∀ (s : Shared) (u : Value), BindsTo s fd ⟨[u], []⟩ [(x, u)]) ∧
    (∀ (H : Hp) (a : Addr) (ns : List Int), ns.length ≤ n → (∀ p ∈ cs, H p.2 = some (.tbl #[])) → SqL K H a (ns.map V.int) → sp [.ref a] H (fun v _ => v = .bl true) fun _ _ _ => False) ∧
    ∀ base : Heap, K.In base → base.Ns mainGlobals mg → (∀ p ∈ cs, TabB base mg p.1 p.2) → FnG l.prog w K mg base CX k fa fd [x] sp
/-- the goal that k_head leaves, where lambdas are made -/
theorem walkGT {l : PySem.W.OpenLaw} {n k : Nat} {q : Program} {loose : List Str} {XP : (Str → Option Value) → Heap → Prop} {YP : World → Heap → Prop} {d : DefRec} {K : Params → PySem.W.Frag} {CX : World → CXT} {x : Str}
    (hn : l.most = some n) (hz : n ≤ sizeLine) (hdf : d.params.defaults = []) (room : Room k callerA) (hY : ∀ (w : World) (h : Heap), YP w h → (K w.params).In h)
    (F : ∀ (w : World) (mg : Str → Option Value) (fa : Addr) (h : Heap), YP w h → (K w.params).In h → h.Ns mainGlobals mg → mg d.name = some (.ref fa) → AtGT l w (K w.params) (CX w) k n x mg fa h)
    (noX : ∀ (w : World) (H : Hp) (s : Shared) (e : Value) (s' : Shared), CX w [] H s (fun _ _ _ => False) e s' → False) :
    PySem.W.WalkO q loose XP YP l.row.toRowW d [] (fun f vs => PySem.call f vs) := by
  apply Att.attach_callB hn hdf
  intro w s₀ s₁ mg mb fa o pm cd doc a vs ns G Y ho hd hcd hmg hobj hints hlen hbits hg
  have inK := hY w _ Y
  obtain ⟨fd, cs, sp, t1, t2, t3, bnd, hsp, hF⟩ := F w mg fa _ Y inK G.T.g hmg
  exact lawGT inK G.T.g G.T.b G.T.builtins G.T.nolimit hg t1 t2 t3 G.T.bmain hobj hints (Nat.le_trans hlen hz) room hF bnd (fun H hT hS => hsp H a ns hlen hT hS) fun H e s' => noX w H s₁ e s'
end Tg
end
section
set_option Elab.async false
set_option linter.all false
set_option maxRecDepth 100000
set_option maxHeartbeats 4000000
/-! Tg, part M: comprehensions whose parts are made anew. -/
namespace Tg
open PySem PySem.Spec PyProof.Rows L2
/-- a comprehension: A holds ahead of turn i, R of what turn i gives -/
theorem lc_gen {J : It} {n : Nat} {G : Hp → Prop} {Y : Nat → Hp → V → Hp → Prop} (w : Walk J n G Y) {g : TG} {te : TE} {vs : List Nat} {σ : L2.St} {H1 : Hp} {D : Addr} {Qd : Hp → Prop} (A : Nat → Hp → Prop) (R : Nat → V → Hp → Prop)
    (hA : ∀ i H xs ys, A i H → H D = some (.lst ys) → A i (upd H D (.lst xs))) (hR : ∀ i v H H', R i v H → Kp H H' → R i v H') (hn : n ≤ 1000) (h0 : A 0 (upd H1 D (.lst []))) (hG : ∀ i H, i ≤ n → A i H → G H)
    (hs : ∀ i x H H' acc, i < n → A i H → H D = some (.lst acc) → Y i H x H' → ∀ Qc : VK, (∀ v H4, H4 D = some (.lst acc) → Kp H H4 → A (i + 1) H4 → R i v H4 → Qc v H4) → g x (wipe σ vs) H' fun σ2 H2 => wipe σ2 vs = wipe σ vs ∧ te σ2 H2 Qc)
    (hd : ∀ H xs, A n H → H D = some (.lst xs) → xs.length = n → (∀ (i : Nat) v, xs[i]? = some v → R i v H) → Qd H) :
    ∃ W : Nat → Nat → Hp → Prop, (∃ m, W 0 m (upd H1 D (.lst []))) ∧ ∀ i m H, W i m H →
      (J.stop i H ∧ Qd H) ∨ (J.go i H ∧ ∃ Nx : Hp → Prop, (∀ H', Nx H' → ∃ m', m' < m ∧ W (i + 1) m' H') ∧ ∀ x H', J.yld i H x H' → g x (wipe σ vs) H' fun σ2 H2 => wipe σ2 vs = wipe σ vs ∧ tYes σ2 H2 fun b H3 =>
        if b = true then te σ2 H3 fun y H4 => ∃ acc, H4 D = some (.lst acc) ∧ acc.length < sizeLine ∧ Nx (upd H4 D (.lst (acc ++ [y]))) else Nx H3) := by
  refine lc_it w (fun j H => A j H ∧ ∃ acc : List V, H D = some (.lst acc) ∧ acc.length = j ∧ ∀ (i : Nat) v, acc[i]? = some v → R i v H) ⟨h0, [], upd_same, rfl, fun i v z => nomatch z⟩ (fun i H hi p => hG i H hi p.1) ?_ fun H p => ?_
  · rintro i x H H' hi ⟨a, acc, hD, hl, hr⟩ y
    refine hs i x H H' acc hi a hD y _ fun v H4 hD4 kp a4 r4 => ?_
    have kp2 : Kp H4 (upd H4 D (.lst (acc ++ [v]))) := Kp.put hD4 (fun _ _ z => nomatch z) (fun _ z => nomatch z)
    refine ⟨acc, hD4, ?_, hA _ _ _ _ a4 hD4, _, upd_same, ?_, fun j u hu => ?_⟩
    · rw [sizeLine_eq]
      omega
    · rw [List.length_append, hl]
      rfl
    · by_cases hj : j < acc.length
      · rw [List.getElem?_append_left hj] at hu
        exact hR _ _ _ _ (hr j u hu) (kp.trans kp2)
      · rw [List.getElem?_append_right (by omega)] at hu
        have hj0 : j - acc.length = 0 := by
          by_cases q : j - acc.length = 0
          · exact q
          · rw [List.getElem?_eq_none (by simp; omega)] at hu
            cases hu
        rw [hj0] at hu
        cases hu
        have : j = i := by omega
        subst this
        exact hR _ _ _ _ r4 kp2
  · obtain ⟨a, acc, hD, hl, hr⟩ := p
    exact hd H acc a hD hl hr
/-- data, one by one -/
theorem rpL_of {H : Hp} {P : Nat → PyData → Prop} : ∀ {xs : List V}, (∀ (i : Nat) v, xs[i]? = some v → ∃ d, P i d ∧ Rp H d v) → ∃ ds, RpL H ds xs ∧ ds.length = xs.length ∧ ∀ (i : Nat) d, ds[i]? = some d → P i d := by
  intro xs
  induction xs generalizing P with
  | nil => exact fun _ => ⟨[], RpL.nil, rfl, fun i d z => by simp at z⟩
  | cons x xs ih =>
    intro h
    obtain ⟨d, p, r⟩ := h 0 x rfl
    obtain ⟨ds, r2, l, p2⟩ := ih (P := fun i => P (i + 1)) fun i v z => h (i + 1) v (by simpa using z)
    refine ⟨d :: ds, RpL.cons r r2, by simp [l], fun i e z => ?_⟩
    cases i with
    | zero => simp at z; subst z; exact p
    | succ i => exact p2 i e (by simpa using z)
end Tg
end
section
set_option Elab.async false
set_option linter.all false
set_option maxRecDepth 100000
set_option maxHeartbeats 4000000
/-! Tg, part N: xs != [], d != {}. -/
namespace Tg
open PySem PySem.Spec PyProof.Rows L2
section
variable {X : Cx}
/-- xs != [] -/
def rNeL0 (K : PySem.W.Frag) : R2 := fun x y H Q => ∃ a b xs, x = .ref a ∧ y = .ref b ∧ SqL K H a xs ∧ SqL K H b [] ∧ Q (.bl (!xs.isEmpty)) H
theorem op_neL0 (hu : X.A.units < cLine) : OpR X (compareOp .NotEq) (rNeL0 X.K) := by
  intro pins s σ H x y v u Q I rx ry h
  obtain ⟨a, b, xs, rfl, rfl, ha, hb, q⟩ := h
  cases rx
  cases ry
  obtain ⟨i1, r1, ⟨o1, n1, g1, c1, _, d1⟩, _⟩ := I.list ha
  obtain ⟨i2, r2, ⟨o2, n2, g2, c2, _, d2⟩, _⟩ := I.list hb
  cases r2
  have l1 : s.heap.IsList a i1.toArray := ⟨_, g1, c1, _, d1⟩
  have l2 : s.heap.IsList b ([] : List Value).toArray := ⟨_, g2, c2, _, d2⟩
  cases r1 with
  | nil =>
    refine SeqAt.RcNeAt.lists (e := fun _ => true) l1 l2 rfl hu (fun j h1 => absurd h1 (Nat.not_lt_zero _)) _ _ _ _ ?_
    exact ⟨.bl false, H, I, rfl, q⟩
  | cons _ _ =>
    refine SeqAt.RcNeAt.lists_lengths l1 l2 (by simp) hu _ _ _ _ ?_
    exact ⟨.bl true, H, I, rfl, q⟩
/-- d != {}, d locked -/
def rNeD0 : R2 := fun x y H Q => ∃ a b o kvs, x = .ref a ∧ y = .ref b ∧ H a = some (.frz o (.dK kvs)) ∧ H b = some (.dK []) ∧ Q (.bl (!kvs.isEmpty)) H
theorem op_neD0 (hu : X.A.units < cLine) : OpR X (compareOp .NotEq) rNeD0 := by
  intro pins s σ H x y v u Q I rx ry h
  obtain ⟨a, b, o, kvs, rfl, rfl, ea, eb, q⟩ := h
  cases rx
  cases ry
  obtain ⟨hs, hgd, hx, es, ep, va, hdt, hsz, ra, hm⟩ := I.frzK ea
  obtain ⟨_, yb, vb, rb, db⟩ := (show ObjOk X.prog X.w H s.heap b (.dK []) from I.hok b _ eb)
  cases rb
  have hl : kvs.length = va.length := Paired.length ra
  refine PySem.W.keq_ne (knd := mixKind X.prog X.w) (r := true) hs yb hm.dictOf db hu (fun z => ?_) ⟨.bl _, H, I, ?_, q⟩
  · cases va with
    | nil => exact .nil
    | cons _ _ => cases z
  · show Value.bool _ = Value.bool _
    cases kvs <;> cases va <;> first | rfl | cases hl
end
end Tg
end
section
set_option Elab.async false
set_option linter.all false
set_option maxRecDepth 100000
set_option maxHeartbeats 4000000
/-! Tg, part O: list(d.items()) of a locked dict. -/
namespace Tg
open PySem PySem.Spec PyProof.Rows L2
def tLiF (te : TE) : TE := fun σ H Q => te σ H fun x H1 => ∃ (d : Addr) (o : Obj) (kvs : List (Key × V)), x = .ref d ∧ H1 d = some (.frz o (.dK kvs)) ∧
  ∀ (H' : Hp) (p : Addr) (ts : List Addr), Same H1 H' → H1 p = none → H' p = some (.lst (ts.map V.ref)) → Paired (fun (t : Addr) (q : Key × V) => H' t = some (.tup [kV q.1, q.2])) ts kvs → Q (.ref p) H'
section
variable {X : Cx} {e : Expr} {te : TE} {p ap cp pos : Pos}
theorem pe_liF (calm : X.calm = true) (he : PE X e te) (hg : Gl X "list") (hm : X.mg "list" = none) (hv : bootBuiltins "list" = some (.type "list")) (hb : attributeBase e "items" X.env (eval e X.env) = eval e X.env := by rfl) (hl : (ap.endLine == cp.line) = true := by rfl)
    (hs : starEach [.Call (.Attribute e "items" ap) [] [] cp] X.env = (false, eval (.Call (.Attribute e "items" ap) [] [] cp) X.env) :: starEach [] X.env := by rfl) :
    PE X (.Call (.Name "list" p) [.Call (.Attribute e "items" ap) [] [] cp] [] pos) (tLiF te) := by
  refine ⟨fun pins s σ H Q I hq => wpAny_Call_Name_kw (ld_blt I hg hm hv (PyProof.Rows.callWith_type1 ?_ hs rfl))⟩
  rw [hs]
  show wpAny _ _ (spliced ((false, eval (.Call (.Attribute e "items" ap) [] [] cp) X.env) :: backTo pos (starEach [] X.env))) _ _ s
  refine Calls.spliced_cons (wpAny_Call_method (T := "dict") (id := "dict.items") hb rfl hl F.plainAttrs_dict F.slot_dict_items F.type_dict_items (thn (he.run pins s σ H _ I hq) fun u s1 ⟨x, H1, J, rx, d, o, kvs, ex, hd, q⟩ => ?_))
  subst ex
  cases (show u = Value.ref d from rx)
  obtain ⟨_, zl, _⟩ := J.hok d _ hd
  obtain ⟨sm, _, _, es, ep, vs, _, _, kv, at_⟩ := J.frzK hd
  have ofd := at_.dictOf
  have len2 : kvs.length = vs.length := Paired.length kv
  have J2 : Inv X pins σ H1 { s1 with heap := s1.heap.push { cls := .type "dict_items", data := .fields #[.ref d] } } := J.kept (t' := s1.toks) fun _ _ z => Heap.get?_push_of_some _ z
  refine ⟨ofd.typeIs, ofd.mapOf.noDict, ?_⟩
  show wpAny _ _ (callWith cp (.builtin "dict.items") [.ref d] [] []) _ X.xe s1
  refine method_meetsIn F.slot_dict_items F.entry_dict_items rfl (PySem.evalArgs_none ⟨rfl, ofd.typeIs, F.args_dict_items_1 _, _, meets_dict_items (mixKind X.prog X.w) d sm, ⟨vs, ofd⟩, Calls.spliced_nil ?_⟩)
  refine PySem.W.kdx_call (knd := mixKind X.prog X.w) (kvs := vs) (ep := ep) (J.ok.hd calm) ⟨_, Heap.get?_push_size _ rfl, rfl, rfl⟩ (at_.push _) (by omega) fun hp tk acc c as w1 w2 w3 w4 w5 => ?_
  obtain ⟨H', k1, k2, k3, k4, k5, k6, J3⟩ := LiI.items_laid (tk := tk) J2 zl kv w1 w2 w3 w4 w5
  exact ⟨.ref _, H', J3, rfl, q H' _ as k1 k2 k5 k6⟩
end
end Tg
end
section
set_option Elab.async false
set_option linter.all false
set_option maxRecDepth 100000
set_option maxHeartbeats 4000000
/-! Tg, part P: xs.count(y) of flat values. -/
namespace Tg
open PySem PySem.Spec PyProof.Rows L2
theorem count_eqU {x : V} : ∀ {xs : List V} {us : List Value}, Vals xs us → xs.all flatV = true → us.countP (eqU x) = xs.countP fun y => eqV y x
  | _, _, .nil, _ => rfl
  | y :: xs, u :: us, .cons r t, f => by
    rw [List.all_cons, Bool.and_eq_true] at f
    rw [List.countP_cons, List.countP_cons, eqU_of r f.1, count_eqU t f.2]
section
variable {X : Cx}
def rCntV (K : PySem.W.Frag) : V → List V → Hp → VK → Prop := fun x xs H Q => ∃ (a : Addr) (ys : List V) (y : V), x = .ref a ∧ xs = [y] ∧ SqL K H a ys ∧ flatV y = true ∧ ys.all flatV = true ∧ Q (.int (ys.countP fun z => eqV z y : Nat)) H
theorem mt_countV : MtR X "list.count" (rCntV X.K) := by
  intro pins s σ H x xs v us Q I rx rxs h
  obtain ⟨a, ys, y, rfl, rfl, hs, fy, fys, q⟩ := h
  cases rx
  cases rxs with
  | cons ry rt =>
    rename_i uy ut
    cases rt
    obtain ⟨its, rv, ⟨⟨cl, dd, dat, sl⟩, n, ho, h1, _, h2⟩, _⟩ := I.list hs
    simp only at h1 h2
    subst h1 h2
    refine call_meets PySem.F.slot_list_count ⟨_, ho, rfl⟩ PySem.F.entry_list_count (PySem.F.args_list_count_2 _ _) (SeqAt.list_countAt a its.toArray n dd sl uy (eqU y)) ⟨ho, fun z hz => mem_eqAt ry fy rv fys z (by simpa using hz), ?_⟩
    refine ⟨.int (ys.countP fun z => eqV z y : Nat), H, I.tok _, ⟨s.toks, ?_⟩, q⟩
    show Value.int ((its.toArray.toList.countP (eqU y) : Nat) : Int) s.toks = _
    rw [show its.toArray.toList = its from rfl, count_eqU rv fys]
end
end Tg
end
section
set_option Elab.async false
set_option linter.all false
set_option maxRecDepth 100000
set_option maxHeartbeats 4000000
/-! Tg, part Q: a def whose code object is known (it makes a lambda). -/
namespace Tg
open PySem PySem.Spec PyProof.Rows L2 LamX
structure FunC (K : PySem.W.Frag) (x ql : Str) (st : Stmt) (f : Addr) (fd : FuncData) (c : Addr) : Prop where
  ex : ∃ (oc : Value) (od : Option Addr) (kV doc pm : Value) (an : Option Addr) (ct : Value) (osl : Array (Option Value)),
    fd = PySem.W.fnOf x ql (defArgs st) (defBody st) (defScope st) .none kV doc pm an (.ref c) ct ∧ K.lookup f = some ⟨oc, od, .func fd, osl⟩ ∧ PySem.W.codeIn K (.ref c) ql = true
section
variable {P : Program} {w : World} {K : PySem.W.Frag} {mg : Str → Option Value} {base : Heap}
theorem funGC {x ql : Str} {st : Stmt} {f c : Addr} {fd : FuncData} {N ps : List Str} {k : Nat} {sp : Sp} (F : FunC K x ql st f fd c) (S : FnScope N ps (defScope st)) (len : ∀ vs H Q E, sp vs H Q E → vs.length = ps.length)
    (hb : ∀ (A : Around) (fr : List Env) (s : Shared) (H : Hp) (vs : List V) (Q : VK) (E : XK), A.guards = some [] → Room k (A.deeper (envOfC ql (defScope st) s.heap.objs.size f (.ref c))) → sp vs H Q E →
      ∃ t, PSs (cxOf CX0 P w K mg base N ql (defScope st) f (.ref c) A fr s H E).nox (defBody st) t ∧ t { nx := fun _ H' => Q .non H', rt := Q } (start N vs) H) : FnG P w K mg base CX0 (k + 1) f fd ps sp := by
  obtain ⟨_, _, _, _, _, _, _, _, rfl, lk, hc⟩ := F.ex
  exact fnG_of lk hc S len fun A fr s H vs Q E hg hr hsp => by
    obtain ⟨t, h, q⟩ := hb A fr s H vs Q E hg hr hsp
    exact ⟨t, h.nox, q⟩
end
theorem ExtN.kp {H H' : Hp} (e : ExtN H H') : Kp H H' := ⟨fun _ _ _ q => e _ _ q (fun _ z => nomatch z), fun _ _ q => e _ _ q (fun _ z => nomatch z)⟩
theorem Rp.extN {H H' : Hp} {d : PyData} {v : V} (r : Rp H d v) (e : ExtN H H') : Rp H' d v := r.keep (ExtN.kp e)
theorem ExtN.same {H H' : Hp} (s : Same H H') : ExtN H H' := fun b o q _ => s b o q
end Tg
end
section
set_option Elab.async false
open PySem PySem.W PyProof.Rows
set_option maxRecDepth 100000
set_option maxHeartbeats 0
open_top head for PySem.Challenge.rw_tagless_k00_documents_told
end
section
set_option Elab.async false
set_option linter.all false
set_option maxRecDepth 100000
set_option maxHeartbeats 4000000
namespace K00
open PySem PySem.Spec PyProof.Rows L2 Tg
local macro_rules | `(tactic| walk_at "c") => `(tactic| first | assumption | trivial | omega | (constructor <;> omega) | decide | exact len_ok (Nat.le_of_ble_eq_true rfl))
local macro_rules | `(tactic| walk_at "sq") => `(tactic| first | exact SqL.of (by assumption) | exact SqL.of upd_same | assumption | exact SqT.of (by assumption) | exact SqT.of upd_same | exact .inl (SqL.of (by assumption)) | exact .inr (SqT.of (by assumption)))
local macro_rules | `(tactic| walk_at "r1") => `(tactic| first
  | refine ⟨_, rfl, ?_⟩
  | refine ⟨_, _, rfl, rfl, ?_⟩
  | refine .inl ⟨_, rfl, ?_⟩
  | refine .inr ⟨_, rfl, ?_⟩
  | (apply Exists.intro; apply Exists.intro; apply Exists.intro; apply Exists.intro; refine And.intro rfl (And.intro rfl (And.intro ?sq ?_)); (case sq => walk_at "sq"); refine And.intro rfl ?_)
  | (apply Exists.intro; apply Exists.intro; apply Exists.intro; apply Exists.intro; refine And.intro rfl (And.intro rfl (And.intro ?hp ?_)); (case hp => first | assumption | exact upd_same); refine And.intro rfl ?_)
  | (refine And.intro ?c ?_; (case c => walk_at "c")))
local macro_rules | `(tactic| walk_at "r") => `(tactic| repeat walk_at "r1")
def top (i : Nat) : Stmt := PySem.Challenge.pw_tagless_k00_documents_told.main.body.getD i (.Pass ⟨0, 0, 0, 0⟩)
abbrev s_is_name : Stmt := top 5
abbrev s_is_document : Stmt := top 6
abbrev s_check_document : Stmt := top 7
abbrev s_are_same : Stmt := top 8
abbrev s_same : Stmt := top 9
abbrev s_parts_in : Stmt := top 10
abbrev s_size : Stmt := top 11
abbrev s__law_pot_of : Stmt := top 13
abbrev s__law_take : Stmt := top 14
abbrev s__law_of : Stmt := top 15
abbrev s__law_unlike : Stmt := top 16
abbrev s__law_flat : Stmt := top 17
abbrev s__law_any : Stmt := top 18
abbrev s__law_bent : Stmt := top 19
abbrev s__law_ink : Stmt := top 20
abbrev s__law_heard : Stmt := top 21
abbrev s__law_is_one : Stmt := top 22
abbrev s__law_parts : Stmt := top 23
abbrev s__law_odd : Stmt := top 24
abbrev s__law_turned : Stmt := top 25
abbrev s__law_two_right : Stmt := top 26
abbrev s__law_one_right : Stmt := top 27
abbrev s_law : Stmt := top 28
theorem sc_is_name : FnScope ["value", "letter"] ["value"] (defScope s_is_name) := ⟨rfl, rfl, rfl, by decide +kernel, rfl, by decide +kernel, by decide +kernel⟩
theorem sc_is_document : FnScope ["value", "part", "field"] ["value"] (defScope s_is_document) := ⟨rfl, rfl, rfl, by decide +kernel, rfl, by decide +kernel, by decide +kernel⟩
theorem sc_check_document : FnScope ["value"] ["value"] (defScope s_check_document) := ⟨rfl, rfl, rfl, by decide +kernel, rfl, by decide +kernel, by decide +kernel⟩
theorem sc_are_same : FnScope ["one", "other", "part", "twin", "field"] ["one", "other"] (defScope s_are_same) := ⟨rfl, rfl, rfl, by decide +kernel, rfl, by decide +kernel, by decide +kernel⟩
theorem sc_same : FnScope ["one", "other"] ["one", "other"] (defScope s_same) := ⟨rfl, rfl, rfl, by decide +kernel, rfl, by decide +kernel, by decide +kernel⟩
theorem sc_parts_in : FnScope ["document", "part"] ["document"] (defScope s_parts_in) := ⟨rfl, rfl, rfl, by decide +kernel, rfl, by decide +kernel, by decide +kernel⟩
theorem sc_size : FnScope ["document"] ["document"] (defScope s_size) := ⟨rfl, rfl, rfl, by decide +kernel, rfl, by decide +kernel, by decide +kernel⟩
theorem sc__law_pot_of : FnScope ["_law_script", "_law_k", "_law_cell", "_law_own"] ["_law_script", "_law_k"] (defScope s__law_pot_of) := ⟨rfl, rfl, rfl, by decide +kernel, rfl, by decide +kernel, by decide +kernel⟩
theorem sc__law_take : FnScope ["_law_pot", "_law_upto", "_law_digit", "_law_prime", "_law_stirred"] ["_law_pot", "_law_upto"] (defScope s__law_take) := ⟨rfl, rfl, rfl, by decide +kernel, rfl, by decide +kernel, by decide +kernel⟩
theorem sc__law_of : FnScope ["_law_pot", "_law_some"] ["_law_pot", "_law_some"] (defScope s__law_of) := ⟨rfl, rfl, rfl, by decide +kernel, rfl, by decide +kernel, by decide +kernel⟩
theorem sc__law_unlike : FnScope ["_law_pot", "_law_some", "_law_many", "_law_left", "_law_found", "_law_turn", "_law_at"] ["_law_pot", "_law_some", "_law_many"] (defScope s__law_unlike) := ⟨rfl, rfl, rfl, by decide +kernel, rfl, by decide +kernel, by decide +kernel⟩
theorem sc__law_flat : FnScope ["_law_pot", "_law_some"] ["_law_pot"] (defScope s__law_flat) := ⟨rfl, rfl, rfl, by decide +kernel, rfl, by decide +kernel, by decide +kernel⟩
theorem sc__law_any : FnScope ["_law_pot", "_law_deep", "_law_pick", "_law_fields", "_law_turn", "_law_field"] ["_law_pot", "_law_deep"] (defScope s__law_any) := ⟨rfl, rfl, rfl, by decide +kernel, rfl, by decide +kernel, by decide +kernel⟩
theorem sc__law_bent : FnScope ["_law_pot", "_law_document", "_law_at", "_law_pick", "_law_fields", "_law_field", "_law_bent_here", "_law_other", "_law_part"] ["_law_pot", "_law_document"] (defScope s__law_bent) := ⟨rfl, rfl, rfl, by decide +kernel, rfl, by decide +kernel, by decide +kernel⟩
theorem sc__law_ink : FnScope ["_law_document", "_law_part", "_law_field"] ["_law_document"] (defScope s__law_ink) := ⟨rfl, rfl, rfl, by decide +kernel, rfl, by decide +kernel, by decide +kernel⟩
theorem sc__law_heard : FnScope ["_law_call", "_law_caught", "_law_back", "error", "_law_marks", "_law_words"] ["_law_call"] (defScope s__law_heard) := ⟨rfl, rfl, rfl, by decide +kernel, rfl, by decide +kernel, by decide +kernel⟩
theorem sc__law_is_one : FnScope ["_law_value", "_law_field", "_law_part", "_law_sign"] ["_law_value"] (defScope s__law_is_one) := ⟨rfl, rfl, rfl, by decide +kernel, rfl, by decide +kernel, by decide +kernel⟩
theorem sc__law_parts : FnScope ["_law_document", "_law_some", "_law_field", "_law_part"] ["_law_document"] (defScope s__law_parts) := ⟨rfl, rfl, rfl, by decide +kernel, rfl, by decide +kernel, by decide +kernel⟩
theorem sc__law_odd : FnScope ["_law_pot", "_law_deep", "_law_pick", "_law_odds", "_law_fields", "_law_turn", "_law_field"] ["_law_pot", "_law_deep"] (defScope s__law_odd) := ⟨rfl, rfl, rfl, by decide +kernel, rfl, by decide +kernel, by decide +kernel⟩
theorem sc__law_turned : FnScope ["_law_document", "_law_part", "_law_field"] ["_law_document"] (defScope s__law_turned) := ⟨rfl, rfl, rfl, by decide +kernel, rfl, by decide +kernel, by decide +kernel⟩
theorem sc__law_two_right : FnScope ["_law_one", "_law_other", "_law_bad", "_law_due", "_law_value"] ["_law_one", "_law_other"] (defScope s__law_two_right) := ⟨rfl, rfl, rfl, by decide +kernel, rfl, by decide +kernel, by decide +kernel⟩
theorem sc__law_one_right : FnScope ["_law_pot", "_law_value", "_law_is_one_here", "_law_due", "_law_bent_here"] ["_law_pot", "_law_value"] (defScope s__law_one_right) := ⟨rfl, rfl, rfl, by decide +kernel, rfl, by decide +kernel, by decide +kernel⟩
theorem sc_law : FnScope ["_law_script", "_law_k", "_law_pot", "_law_some", "_law_turn", "_law_value", "_law_one", "_law_other"] ["_law_script"] (defScope s_law) := ⟨rfl, rfl, rfl, by decide +kernel, rfl, by decide +kernel, by decide +kernel⟩
structure Tx (P : Program) (K : PySem.W.Frag) (mg : Str → Option Value) where
  D : Addr
  fI : Addr
  fdI : FuncData
  ini : IniT P K mg fI D fdI
  b_ini : Binds K fdI ["self", "value"] []
  C_TaglessError : Addr
  e_TaglessError : ErrC K fI D C_TaglessError
  m_TaglessError : mg "TaglessError" = some (.ref C_TaglessError)
  C_NoDocument : Addr
  e_NoDocument : ErrC K fI D C_NoDocument
  m_NoDocument : mg "NoDocument" = some (.ref C_NoDocument)
  t_MOST_LETTERS : Tok
  m_MOST_LETTERS : mg "MOST_LETTERS" = some (.int 8 t_MOST_LETTERS)
  n_ValueError : mg "ValueError" = none
  n_abs : mg "abs" = none
  n_all : mg "all" = none
  n_bool : mg "bool" = none
  n_dict : mg "dict" = none
  n_int : mg "int" = none
  n_isinstance : mg "isinstance" = none
  n_len : mg "len" = none
  n_list : mg "list" = none
  n_max : mg "max" = none
  n_min : mg "min" = none
  n_range : mg "range" = none
  n_repr : mg "repr" = none
  n_sorted : mg "sorted" = none
  n_str : mg "str" = none
  n_sum : mg "sum" = none
  n_tuple : mg "tuple" = none
  n_zip : mg "zip" = none
  a_is_name : Addr
  fd_is_name : FuncData
  F_is_name : Fun K "is_name" "is_name" s_is_name a_is_name fd_is_name
  b_is_name : Binds K fd_is_name ["value"] []
  m_is_name : mg "is_name" = some (.ref a_is_name)
  a_is_document : Addr
  fd_is_document : FuncData
  F_is_document : Fun K "is_document" "is_document" s_is_document a_is_document fd_is_document
  b_is_document : Binds K fd_is_document ["value"] []
  m_is_document : mg "is_document" = some (.ref a_is_document)
  a_check_document : Addr
  fd_check_document : FuncData
  F_check_document : Fun K "check_document" "check_document" s_check_document a_check_document fd_check_document
  b_check_document : Binds K fd_check_document ["value"] []
  m_check_document : mg "check_document" = some (.ref a_check_document)
  a_are_same : Addr
  fd_are_same : FuncData
  F_are_same : Fun K "are_same" "are_same" s_are_same a_are_same fd_are_same
  b_are_same : Binds K fd_are_same ["one", "other"] []
  m_are_same : mg "are_same" = some (.ref a_are_same)
  a_same : Addr
  fd_same : FuncData
  F_same : Fun K "same" "same" s_same a_same fd_same
  b_same : Binds K fd_same ["one", "other"] []
  m_same : mg "same" = some (.ref a_same)
  a_parts_in : Addr
  fd_parts_in : FuncData
  F_parts_in : Fun K "parts_in" "parts_in" s_parts_in a_parts_in fd_parts_in
  b_parts_in : Binds K fd_parts_in ["document"] []
  m_parts_in : mg "parts_in" = some (.ref a_parts_in)
  a_size : Addr
  fd_size : FuncData
  F_size : Fun K "size" "size" s_size a_size fd_size
  b_size : Binds K fd_size ["document"] []
  m_size : mg "size" = some (.ref a_size)
  a__law_pot_of : Addr
  fd__law_pot_of : FuncData
  F__law_pot_of : Fun K "_law_pot_of" "_law_pot_of" s__law_pot_of a__law_pot_of fd__law_pot_of
  b__law_pot_of : Binds K fd__law_pot_of ["_law_script", "_law_k"] []
  m__law_pot_of : mg "_law_pot_of" = some (.ref a__law_pot_of)
  a__law_take : Addr
  fd__law_take : FuncData
  F__law_take : Fun K "_law_take" "_law_take" s__law_take a__law_take fd__law_take
  b__law_take : Binds K fd__law_take ["_law_pot", "_law_upto"] []
  m__law_take : mg "_law_take" = some (.ref a__law_take)
  a__law_of : Addr
  fd__law_of : FuncData
  F__law_of : Fun K "_law_of" "_law_of" s__law_of a__law_of fd__law_of
  b__law_of : Binds K fd__law_of ["_law_pot", "_law_some"] []
  m__law_of : mg "_law_of" = some (.ref a__law_of)
  a__law_unlike : Addr
  fd__law_unlike : FuncData
  F__law_unlike : Fun K "_law_unlike" "_law_unlike" s__law_unlike a__law_unlike fd__law_unlike
  b__law_unlike : Binds K fd__law_unlike ["_law_pot", "_law_some", "_law_many"] []
  m__law_unlike : mg "_law_unlike" = some (.ref a__law_unlike)
  a__law_flat : Addr
  fd__law_flat : FuncData
  F__law_flat : Fun K "_law_flat" "_law_flat" s__law_flat a__law_flat fd__law_flat
  b__law_flat : Binds K fd__law_flat ["_law_pot"] []
  m__law_flat : mg "_law_flat" = some (.ref a__law_flat)
  a__law_any : Addr
  fd__law_any : FuncData
  F__law_any : Fun K "_law_any" "_law_any" s__law_any a__law_any fd__law_any
  b__law_any : Binds K fd__law_any ["_law_pot", "_law_deep"] []
  m__law_any : mg "_law_any" = some (.ref a__law_any)
  a__law_bent : Addr
  fd__law_bent : FuncData
  F__law_bent : Fun K "_law_bent" "_law_bent" s__law_bent a__law_bent fd__law_bent
  b__law_bent : Binds K fd__law_bent ["_law_pot", "_law_document"] []
  m__law_bent : mg "_law_bent" = some (.ref a__law_bent)
  a__law_ink : Addr
  fd__law_ink : FuncData
  F__law_ink : Fun K "_law_ink" "_law_ink" s__law_ink a__law_ink fd__law_ink
  b__law_ink : Binds K fd__law_ink ["_law_document"] []
  m__law_ink : mg "_law_ink" = some (.ref a__law_ink)
  a__law_heard : Addr
  fd__law_heard : FuncData
  F__law_heard : Fun K "_law_heard" "_law_heard" s__law_heard a__law_heard fd__law_heard
  b__law_heard : Binds K fd__law_heard ["_law_call"] []
  m__law_heard : mg "_law_heard" = some (.ref a__law_heard)
  a__law_is_one : Addr
  fd__law_is_one : FuncData
  F__law_is_one : Fun K "_law_is_one" "_law_is_one" s__law_is_one a__law_is_one fd__law_is_one
  b__law_is_one : Binds K fd__law_is_one ["_law_value"] []
  m__law_is_one : mg "_law_is_one" = some (.ref a__law_is_one)
  a__law_parts : Addr
  fd__law_parts : FuncData
  F__law_parts : Fun K "_law_parts" "_law_parts" s__law_parts a__law_parts fd__law_parts
  b__law_parts : Binds K fd__law_parts ["_law_document"] []
  m__law_parts : mg "_law_parts" = some (.ref a__law_parts)
  a__law_odd : Addr
  fd__law_odd : FuncData
  F__law_odd : Fun K "_law_odd" "_law_odd" s__law_odd a__law_odd fd__law_odd
  b__law_odd : Binds K fd__law_odd ["_law_pot", "_law_deep"] []
  m__law_odd : mg "_law_odd" = some (.ref a__law_odd)
  a__law_turned : Addr
  fd__law_turned : FuncData
  F__law_turned : Fun K "_law_turned" "_law_turned" s__law_turned a__law_turned fd__law_turned
  b__law_turned : Binds K fd__law_turned ["_law_document"] []
  m__law_turned : mg "_law_turned" = some (.ref a__law_turned)
  a__law_two_right : Addr
  fd__law_two_right : FuncData
  F__law_two_right : Fun K "_law_two_right" "_law_two_right" s__law_two_right a__law_two_right fd__law_two_right
  b__law_two_right : Binds K fd__law_two_right ["_law_one", "_law_other"] []
  m__law_two_right : mg "_law_two_right" = some (.ref a__law_two_right)
  a__law_one_right : Addr
  fd__law_one_right : FuncData
  F__law_one_right : Fun K "_law_one_right" "_law_one_right" s__law_one_right a__law_one_right fd__law_one_right
  b__law_one_right : Binds K fd__law_one_right ["_law_pot", "_law_value"] []
  m__law_one_right : mg "_law_one_right" = some (.ref a__law_one_right)
  a_law : Addr
  fd_law : FuncData
  F_law : Fun K "law" "law" s_law a_law fd_law
  b_law : Binds K fd_law ["_law_script"] []
  m_law : mg "law" = some (.ref a_law)

/-! ### the pot -/
structure PotAt (H : Hp) (p : Addr) (c : Int) : Prop where
  ex : ∃ x y z : Int, H p = some (.lst [.int x, .int y, .int z]) ∧ 0 ≤ x ∧ 0 ≤ y ∧ y < 2305843009213693921 ∧ 0 ≤ z ∧ z ≤ c
def But (p : Addr) (H H' : Hp) : Prop := ∀ b o, b ≠ p → H b = some o → H' b = some o
theorem But.trans {p : Addr} {H H1 H2 : Hp} (a : But p H H1) (b : But p H1 H2) : But p H H2 := fun c o n e => b c o n (a c o n e)
theorem But.refl {p : Addr} {H : Hp} : But p H H := fun _ _ _ e => e
theorem But.same {p : Addr} {H H' : Hp} (s : Same H H') : But p H H' := fun b o _ e => s b o e

theorem atI_mem {xs : List V} {i : Int} (h0 : 0 ≤ i) (h1 : i < xs.length) : ∃ v, atI xs i = some v ∧ v ∈ xs := by
  have hj : i.toNat < xs.length := by omega
  exact ⟨xs[i.toNat], at_of (j := i.toNat) (by omega) (List.getElem?_eq_getElem hj), List.getElem_mem hj⟩
def spTake : Sp := fun vs H Q _ => ∃ (p : Addr) (c n : Int), vs = [.ref p, .int n] ∧ PotAt H p c ∧ c < 1000000 ∧ 0 < n ∧ n < 1073741824 ∧
  ∀ (H' : Hp) (r : Int), But p H H' → PotAt H' p (c + 1) → 0 ≤ r → r < n → Q (.int r) H'
section
variable {P : Program} {w : World} {K : PySem.W.Frag} {mg : Str → Option Value} {base : Heap}
theorem sq_upd {H : Hp} {p : Addr} {xs : List V} : SqL K (upd H p (.lst xs)) p xs := SqL.of upd_same
theorem ok_take (T : Tx P K mg) : FnOk P w K mg base CX0 1 T.a__law_take T.fd__law_take ["_law_pot", "_law_upto"] spTake := by
  refine T.F__law_take.ok sc__law_take (fun vs H Q E h => ?_) (fun cdv A outer s H vs Q E hr h => ?_)
  · obtain ⟨p, c, n, rfl, _⟩ := h
    rfl
  obtain ⟨p, c, n, rfl, ⟨x, y, z, hp, hx, hy, hy2, hz, hz2⟩, hc, hn, hn2, k⟩ := h
  refine ⟨_, (pss_cons (ps_if (pt_cmpR op_gt (pe_ix ix_list (pv 0) pe_int (fun _ _ => rfl)) pe_int (nomark _)) (pss_cons (ps_set (i := 2) sc__law_take.nd rfl (Or.inl rfl) (pe_op op_mod (pe_callTy call_int1 (by rfl) T.n_int PyProof.Rows.Boot.«int» (pa_cons (pe_ix ix_list (pv 0) pe_int (fun _ _ => rfl)) pa_nil)) (pv 1)))
      (pss_cons (ps_asg (pe_op op_fdiv (pe_ix ix_list (pv 0) pe_int (fun _ _ => rfl)) (pv 1)) (pg_sub (pv 0) pe_int set_list))
      (pss_one (ps_ret (pv 2))))) pss_nil)
      (pss_cons (ps_asg (pe_op op_add (pe_ix ix_list (pv 0) pe_int (fun _ _ => rfl)) pe_int) (pg_sub (pv 0) pe_int set_list))
      (pss_cons (ps_set (i := 3) sc__law_take.nd rfl (Or.inl rfl) (pe_ix ix_list (pe_lst (pa_cons pe_int (pa_cons pe_int (pa_cons pe_int (pa_cons pe_int (pa_cons pe_int pa_nil)))))) (pe_op op_mod (pe_callTy call_int1 (by rfl) T.n_int PyProof.Rows.Boot.«int» (pa_cons (pe_ix ix_list (pv 0) pe_int (fun _ _ => rfl)) pa_nil)) pe_int) (fun _ _ => rfl)))
      (pss_cons (ps_set (i := 4) sc__law_take.nd rfl (Or.inl rfl) (pe_op op_mod (pe_callTy call_int1 (by rfl) T.n_int PyProof.Rows.Boot.«int» (pa_cons (pe_op op_pow (pe_op op_add (pe_op op_add (pe_ix ix_list (pv 0) pe_int (fun _ _ => rfl)) (pe_op op_mul (pe_op op_mul pe_int (pe_ix ix_list (pv 0) pe_int (fun _ _ => rfl))) (pe_ix ix_list (pv 0) pe_int (fun _ _ => rfl)))) pe_int) pe_int) pa_nil)) (pv 3)))
      (pss_one (ps_ret (pe_op op_mod (pe_callTy call_int1 (by rfl) T.n_int PyProof.Rows.Boot.«int» (pa_cons (pe_op op_fdiv (pe_op op_mul (pv 4) (pe_op op_add (pe_op op_mod (pe_callTy call_int1 (by rfl) T.n_int PyProof.Rows.Boot.«int» (pa_cons (pv 4) pa_nil)) pe_int) (pe_op op_mul pe_int (pe_ix ix_list (pv 0) pe_int (fun _ _ => rfl))))) pe_int) pa_nil)) (pv 1)))))))), ?_⟩
  walk_at "r"
  refine ite2 (fun hb => ?_) fun hb => ?_
  · have hx0 : 0 < x := of_decide_eq_true hb
    walk_at "r"
    refine k _ (x % n) (fun b o nb e => ?_) ⟨x / n, y, z, upd_same, ?_, hy, hy2, hz, by omega⟩ (Int.emod_nonneg _ (by omega)) (Int.emod_lt_of_pos _ hn)
    · rw [upd_ne nb]
      exact e
    · exact Int.ediv_nonneg hx (by omega)
  · walk_at "r"
    intro q hq
    have nq : p ≠ q := by
      rintro rfl
      rw [upd_same] at hq
      cases hq
    have bt : But p H (upd (upd H p (.lst [.int x, .int y, .int (z + 1)])) q (.lst [.int 2147483647, .int 2147483629, .int 2147483587, .int 2147483579, .int 2147483563])) := fun b o nb e => by
      have n2 : b ≠ q := by
        rintro rfl
        have hq' : upd H p _ b = none := hq
        rw [upd_ne nb, e] at hq'
        cases hq'
      rw [upd_ne n2, upd_ne nb]
      exact e
    have hp1 : (upd (upd H p (.lst [.int x, .int y, .int (z + 1)])) q (.lst [.int 2147483647, .int 2147483629, .int 2147483587, .int 2147483579, .int 2147483563])) p = some (.lst [.int x, .int y, .int (z + 1)]) := by rw [upd_ne nq, upd_same]
    have hq1 : (upd (upd H p (.lst [.int x, .int y, .int (z + 1)])) q (.lst [.int 2147483647, .int 2147483629, .int 2147483587, .int 2147483579, .int 2147483563])) q = some (.lst [.int 2147483647, .int 2147483629, .int 2147483587, .int 2147483579, .int 2147483563]) := upd_same
    change tOp (rI (fun _ j => 0 < j) fun i j => V.int (i % j)) _ _ _ (upd (upd H p (.lst [.int x, .int y, .int (z + 1)])) q (.lst [.int 2147483647, .int 2147483629, .int 2147483587, .int 2147483579, .int 2147483563])) _
    generalize upd (upd H p (.lst [.int x, .int y, .int (z + 1)])) q (.lst [.int 2147483647, .int 2147483629, .int 2147483587, .int 2147483579, .int 2147483563]) = H1 at bt hp1 hq1 ⊢
    walk_at "r"
    obtain ⟨v, hv, hm⟩ := atI_mem (xs := [V.int 2147483647, .int 2147483629, .int 2147483587, .int 2147483579, .int 2147483563]) (i := (z + 1) % 5) (Int.emod_nonneg _ (by decide)) (Int.emod_lt_of_pos _ (by decide))
    obtain ⟨pr, rfl, pr0, pr1⟩ : ∃ pr : Int, v = .int pr ∧ 0 < pr ∧ pr < 2147483648 := by
      simp only [List.mem_cons, List.not_mem_nil, or_false] at hm
      rcases hm with rfl | rfl | rfl | rfl | rfl <;> exact ⟨_, rfl, by decide, by decide⟩
    refine ⟨q, _, _, _, rfl, rfl, SqL.of hq1, hv, ?_⟩
    have hzz : 80021 * (z + 1) * (z + 1) < 90000000000000000 := by
      have h1 : 80021 * (z + 1) * (z + 1) ≤ 80021 * 1000000 * 1000000 := Int.mul_le_mul (Int.mul_le_mul (by decide) (by omega) (by omega) (by decide)) (by omega) (by omega) (by decide)
      omega
    have hzz0 : 0 ≤ 80021 * (z + 1) * (z + 1) := Int.mul_nonneg (Int.mul_nonneg (by decide) (by omega)) (by omega)
    have st0 := Int.emod_nonneg ((y + 80021 * (z + 1) * (z + 1) + 59) ^ Int.toNat 3) (show pr ≠ 0 by omega)
    have st1 := Int.emod_lt_of_pos ((y + 80021 * (z + 1) * (z + 1) + 59) ^ Int.toNat 3) pr0
    walk_at "r"
    exact k H1 _ bt ⟨x, y, z + 1, hp1, hx, hy, hy2, by omega, by omega⟩ (Int.emod_nonneg _ (by omega)) (Int.emod_lt_of_pos _ hn)

def spOf (K : PySem.W.Frag) : Sp := fun vs H Q _ => ∃ (p l : Addr) (c : Int) (xs : List V), vs = [.ref p, .ref l] ∧ PotAt H p c ∧ c < 1000000 ∧ SqL K H l xs ∧ l ≠ p ∧ xs ≠ [] ∧ xs.length < 1000 ∧
  ∀ (H' : Hp) (v : V), But p H H' → PotAt H' p (c + 1) → v ∈ xs → Q v H'
theorem sq_but {p l : Addr} {H H' : Hp} {xs : List V} (b : But p H H') (n : l ≠ p) (h : SqL K H l xs) : SqL K H' l xs := by
  rcases h with (h | ⟨o, h⟩) | h
  · exact .inl (.inl (b _ _ n h))
  · exact .inl (.inr ⟨o, b _ _ n h⟩)
  · exact .inr h
theorem ok_of (T : Tx P K mg) : FnOk P w K mg base CX0 2 T.a__law_of T.fd__law_of ["_law_pot", "_law_some"] (spOf K) := by
  have G__law_take := ok_take (w := w) (base := base) T
  refine T.F__law_of.ok sc__law_of (fun vs H Q E h => ?_) (fun cdv A outer s H vs Q E hr h => ?_)
  · obtain ⟨p, l, c, xs, rfl, _⟩ := h
    rfl
  obtain ⟨p, l, c, xs, rfl, hp, hc, hl, nl, nx, hz, k⟩ := h
  have hz0 : 0 < xs.length := List.length_pos_iff.mpr nx
  refine ⟨_, (pss_one (ps_ret (pe_ix ix_list (pv 1) (pe_call G__law_take (hr.mono (by first | decide | omega)) (by rfl) T.m__law_take T.F__law_take.kp T.b__law_take .nil pass0 (pa_cons (pv 0) (pa_cons (pe_callB call_len (by rfl) T.n_len PyProof.Rows.Boot.«len» (pa_cons (pv 1) pa_nil)) pa_nil))) (fun _ _ => rfl)))), ?_⟩
  refine ⟨_, rfl, _, rfl, _, rfl, _, _, rfl, .inl ⟨_, hl, rfl⟩, p, c, _, rfl, hp, hc, by omega, by omega, fun H' r bt hp' h0 h1 => ?_⟩
  obtain ⟨v, hv, hm⟩ := atI_mem h0 h1
  exact ⟨l, xs, r, v, rfl, rfl, sq_but bt nl hl, hv, k H' v bt hp' hm⟩

def spPot (K : PySem.W.Frag) : Sp := fun vs H Q _ => ∃ (a : Addr) (ns : List Int) (i : Int), vs = [.ref a, .int i] ∧ SqL K H a (ns.map V.int) ∧ ns.length ≤ 63 ∧ 0 ≤ i ∧ i < 100 ∧
  ∀ (H' : Hp) (p : Addr), Same H H' → H p = none → PotAt H' p 0 → Q (.ref p) H'
theorem cmul_b {x : Int} {c : Bool} : CMul x (if c = true then 1 else 0) := .inr (by cases c <;> decide)
theorem own_nn {x m : Int} {c : Bool} (hm : 0 < m) : 0 ≤ x % m * (if c = true then 1 else 0) := Int.mul_nonneg (Int.emod_nonneg _ (by omega)) (by cases c <;> decide)
local macro_rules | `(tactic| walk_at "pot") => `(tactic| (
  walk_at "r"
  refine ⟨cmul_b, ?_⟩
  walk_at "r"))
theorem ok_pot (T : Tx P K mg) : FnOk P w K mg base CX0 1 T.a__law_pot_of T.fd__law_pot_of ["_law_script", "_law_k"] (spPot K) := by
  refine T.F__law_pot_of.ok sc__law_pot_of (fun vs H Q E h => ?_) (fun cdv A outer s H vs Q E hr h => ?_)
  · obtain ⟨a, ns, i, rfl, _⟩ := h
    rfl
  obtain ⟨a, ns, i, rfl, ha, hz, h0, h1, k⟩ := h
  refine ⟨_, (pss_cons (ps_set (i := 2) sc__law_pot_of.nd rfl (Or.inl rfl) (pe_ifExp (pt_cmpR op_lt (pv 1) (pe_callB call_len (by rfl) T.n_len PyProof.Rows.Boot.«len» (pa_cons (pv 0) pa_nil)) (nomark _)) (pe_ix ix_list (pv 0) (pv 1) (fun _ _ => rfl)) (pe_op op_add (pe_op op_mul pe_int (pv 1)) pe_int)))
      (pss_cons (ps_set (i := 3) sc__law_pot_of.nd rfl (Or.inl rfl) (pe_op op_mul (pe_op op_mod (pe_callTy call_int1 (by rfl) T.n_int PyProof.Rows.Boot.«int» (pa_cons (pe_callB call_abs (by rfl) T.n_abs PyProof.Rows.Boot.«abs» (pa_cons (pv 2) pa_nil)) pa_nil)) (pe_op op_powW (pe_op op_pow pe_int pe_int) pe_int)) (pe_callTy call_int1 (by rfl) T.n_int PyProof.Rows.Boot.«int» (pa_cons (pe_cmpR op_ge (pe_callB call_abs (by rfl) T.n_abs PyProof.Rows.Boot.«abs» (pa_cons (pv 2) pa_nil)) (pe_op op_pow pe_int pe_int) (nomark _)) pa_nil))))
      (pss_one (ps_ret (pe_lst (pa_cons (pv 3) (pa_cons (pe_op op_mod (pe_callTy call_int1 (by rfl) T.n_int PyProof.Rows.Boot.«int» (pa_cons (pe_op op_add (pe_op op_add (pe_op op_mul (pe_op op_mod (pe_callTy call_int1 (by rfl) T.n_int PyProof.Rows.Boot.«int» (pa_cons (pv 2) pa_nil)) pe_int) pe_int) (pe_op op_mul (pe_op op_mul pe_int (pv 1)) (pv 1))) pe_int) pa_nil)) pe_int) (pa_cons pe_int pa_nil)))))))), ?_⟩
  refine ⟨_, rfl, _, rfl, _, _, rfl, .inl ⟨_, ha, rfl⟩, _, _, rfl, rfl, _, rfl, ite2 (fun hb => ?_) fun hb => ?_⟩
  · obtain ⟨v, hv, hm⟩ := atI_mem (xs := ns.map V.int) h0 (of_decide_eq_true hb)
    obtain ⟨cell, _, rfl⟩ := List.mem_map.mp hm
    refine ⟨_, rfl, _, rfl, a, _, _, _, rfl, rfl, ha, hv, ?_⟩
    walk_at "pot"
    exact fun p np => k _ p (same_new np) np ⟨_, _, _, upd_same, own_nn (by decide), Int.emod_nonneg _ (by decide), Int.emod_lt_of_pos _ (by decide), Int.le_refl _, Int.le_refl _⟩
  · walk_at "r"
    walk_at "pot"
    exact fun p np => k _ p (same_new np) np ⟨_, _, _, upd_same, own_nn (by decide), Int.emod_nonneg _ (by decide), Int.emod_lt_of_pos _ (by decide), Int.le_refl _, Int.le_refl _⟩
end
end K00
end
section
set_option Elab.async false
set_option linter.all false
set_option maxRecDepth 100000
set_option maxHeartbeats 4000000
set_option pp.maxSteps 2000
namespace K00
open PySem PySem.Spec PyProof.Rows L2 Tg
local macro_rules | `(tactic| walk_at "c") => `(tactic| first | assumption | trivial | omega | (constructor <;> omega) | decide | exact len_ok (Nat.le_of_ble_eq_true rfl))
local macro_rules | `(tactic| walk_at "sq") => `(tactic| first | exact SqL.of (by assumption) | exact SqL.of upd_same | assumption | exact SqT.of (by assumption) | exact SqT.of upd_same | exact .inl (SqL.of (by assumption)) | exact .inr (SqT.of (by assumption)))
local macro_rules | `(tactic| walk_at "r1") => `(tactic| first
  | refine ⟨_, rfl, ?_⟩
  | refine ⟨_, _, rfl, rfl, ?_⟩
  | refine .inl ⟨_, rfl, ?_⟩
  | refine .inr ⟨_, rfl, ?_⟩
  | (apply Exists.intro; apply Exists.intro; apply Exists.intro; apply Exists.intro; refine And.intro rfl (And.intro rfl (And.intro ?sq ?_)); (case sq => walk_at "sq"); refine And.intro rfl ?_)
  | (apply Exists.intro; apply Exists.intro; apply Exists.intro; apply Exists.intro; refine And.intro rfl (And.intro rfl (And.intro ?hp ?_)); (case hp => first | assumption | exact upd_same); refine And.intro rfl ?_)
  | (refine And.intro ?c ?_; (case c => walk_at "c")))
local macro_rules | `(tactic| walk_at "r") => `(tactic| repeat walk_at "r1")
theorem iF {p q : Prop} (h : q) : if (false = true) then p else q := h
theorem iT {p q : Prop} (h : p) : if (true = true) then p else q := h
/-- a small letter -/
def low (c : Nat) : Bool := decide (97 ≤ c) && decide (c ≤ 122)
theorem one_lt {a b : Nat} : ([a] < [b]) ↔ a < b := by simp [List.cons_lt_cons_iff]
theorem chr_a {c : Nat} : (!decide ((⟨#[c]⟩ : Str).cps.toList < (Str.ofString "a").cps.toList)) = decide (97 ≤ c) := by
  have e : (Str.ofString "a").cps.toList = [97] := by decide +kernel
  rw [e]
  show (!decide ([c] < [97])) = _
  by_cases h : 97 ≤ c
  · rw [decide_eq_true h, decide_eq_false (by rw [one_lt]; omega)]
    rfl
  · rw [decide_eq_false h, decide_eq_true (by rw [one_lt]; omega)]
    rfl
theorem chr_z {c : Nat} : (!decide ((Str.ofString "z").cps.toList < (⟨#[c]⟩ : Str).cps.toList)) = decide (c ≤ 122) := by
  have e : (Str.ofString "z").cps.toList = [122] := by decide +kernel
  rw [e]
  show (!decide ([122] < [c])) = _
  by_cases h : c ≤ 122
  · rw [decide_eq_true h, decide_eq_false (by rw [one_lt]; omega)]
    rfl
  · rw [decide_eq_false h, decide_eq_true (by rw [one_lt]; omega)]
    rfl
section
variable {P : Program} {w : World} {K : PySem.W.Frag} {mg : Str → Option Value} {base : Heap}
def isS : PyData → Bool
  | .str _ => true
  | _ => false
def isNm : PyData → Bool
  | .str x => decide (1 ≤ x.length) && decide (x.length ≤ 8) && x.cps.toList.all low
  | _ => false
def spName : Sp := fun vs H Q _ => ∃ (v : V) (d : PyData), vs = [v] ∧ Rp H d v ∧ (∀ x, d = .str x → x.length ≤ sizeLine) ∧ ∀ H', Same H H' → Q (.bl (isNm d)) H'
theorem ok_name (T : Tx P K mg) : FnOk P w K mg base CX0 1 T.a_is_name T.fd_is_name ["value"] spName := by
  refine T.F_is_name.ok sc_is_name (fun vs H Q E h => ?_) (fun cdv A outer s H vs Q E hr h => ?_)
  · obtain ⟨v, d, rfl, _⟩ := h
    rfl
  obtain ⟨v, d, rfl, rd, hz, k⟩ := h
  refine ⟨_, (pss_cons (ps_if (PW.pt (pw_or (pt_not (pt_val (pe_callB call_isD (by rfl) T.n_isinstance PyProof.Rows.Boot.«isinstance» (pa_cons (pv 0) (pa_cons (pe_bltn (v := .ty "str") (by rfl) T.n_str PyProof.Rows.Boot.«str» rfl) pa_nil))))) (pw_or1 (pt_not (pt_chain op_le op_le pe_int (pe_callB call_len (by rfl) T.n_len PyProof.Rows.Boot.«len» (pa_cons (pv 0) pa_nil)) (pe_glob (v := .int 8) (by rfl) T.m_MOST_LETTERS ⟨_, rfl⟩)))))) (pss_one (ps_ret pe_bl)) pss_nil)
      (pss_one (ps_ret (pe_callB (cr_all rfl) (by rfl) T.n_all PyProof.Rows.Boot.«all» (pa_cons (pe_lc (own := [("letter", 1)]) (g := gName 1) (tt := tYes) (by rfl) sc_is_name.nd (pi_str (pv 0)) (blkOk_by (own := [("letter", 1)]) (N := ["value", "letter"]) (sc := defScope s_is_name) (by decide +kernel)) (fun _ _ _ _ _ => (pg_name (i := 1) sc_is_name.nd rfl (Or.inl rfl))) (fun _ _ _ _ _ => pts_nil) (fun _ _ _ _ _ => (pe_chain op_le_str op_le_str pe_str (pv 1) pe_str))) pa_nil))))), ?_⟩
  have hk : ∀ u : Value, u = .type "str" → PySem.W.kitOne K (tyD d) u = some (isS d) := by
    rintro _ rfl
    cases d <;> rfl
  refine ⟨_, rfl, _, _, d, _, _, rfl, .ty _, rd, hk _ rfl, _, rfl, ?_⟩
  cases d with
  | str x =>
    simp only [Rp] at rd
    subst rd
    refine iF ?_
    have hx := hz x rfl
    refine ⟨_, rfl, _, _, rfl, ⟨hx, rfl⟩, ?_⟩
    refine ⟨_, _, rfl, rfl, _, rfl, ?_⟩
    by_cases h1 : ¬ 1 ≤ x.length
    · have e1 : decide ((1 : Int) ≤ (x.length : Int)) = false := decide_eq_false (by omega)
      rw [e1]
      have e2 : isNm (.str x) = false := by
        show (decide (1 ≤ x.length) && _ && _) = false
        rw [decide_eq_false h1]
        rfl
      rw [e2] at k
      exact ⟨false, rfl, k H (Same.refl H)⟩
    have h1 := Classical.not_not.mp h1
    have e1 : decide ((1 : Int) ≤ (x.length : Int)) = true := decide_eq_true (by omega)
    rw [e1]
    refine ⟨_, _, rfl, rfl, _, rfl, ?_⟩
    by_cases h8 : ¬ x.length ≤ 8
    · have e3 : decide ((x.length : Int) ≤ (8 : Int)) = false := decide_eq_false (by omega)
      rw [e3]
      have e2 : isNm (.str x) = false := by
        show (decide (1 ≤ x.length) && decide (x.length ≤ 8) && _) = false
        rw [decide_eq_false h8, Bool.and_false]
        rfl
      rw [e2] at k
      exact k H (Same.refl H)
    have h8 := Classical.not_not.mp h8
    have e3 : decide ((x.length : Int) ≤ (8 : Int)) = true := decide_eq_true (by omega)
    rw [e3]
    refine iF ?_
    have e2 : isNm (.str x) = (x.cps.toList.map low).all id := by
      show (decide (1 ≤ x.length) && decide (x.length ≤ 8) && _) = _
      rw [decide_eq_true h1, decide_eq_true h8, List.all_map]
      rfl
    rw [e2] at k
    have hzs : x.cps.size = x.cps.toList.length := (Array.length_toList).symm
    refine ⟨_, rfl, x, rfl, fun D nD => lc_it walk_str (fun j H6 => Same H H6 ∧ H6 D = some (.lst ((x.cps.toList.take j).map fun c => V.bl (low c)))) ⟨same_new nD, upd_same⟩ (fun _ _ _ _ => trivial) ?_ ?_⟩
    · rintro j y H6 H7 hj ⟨s6, hD⟩ ⟨rfl, c, hc, rfl⟩
      have hc' : x.cps.toList[j]? = some c := by rw [Array.getElem?_toList]; exact hc
      have fin : ∀ b, b = low c → ∃ acc, H7 D = some (.lst acc) ∧ acc.length < sizeLine ∧ (Same H (upd H7 D (.lst (acc ++ [V.bl b]))) ∧ upd H7 D (.lst (acc ++ [V.bl b])) D = some (.lst ((x.cps.toList.take (j + 1)).map fun c => V.bl (low c)))) := by
        rintro b rfl
        refine ⟨_, hD, ?_, fun b o e => ?_, ?_⟩
        · rw [List.length_map, List.length_take, sizeLine_eq]
          have : x.cps.toList.length ≤ 8 := by rw [← hzs]; exact h8
          omega
        · rw [upd_ne (ne_of_none e nD)]
          exact s6 _ _ e
        · rw [upd_same, List.take_add_one, hc', List.map_append]
          rfl
      refine ⟨rfl, _, rfl, _, _, rfl, rfl, _, rfl, ?_⟩
      rw [chr_a]
      by_cases ha : 97 ≤ c
      · rw [decide_eq_true ha]
        refine ⟨_, _, rfl, rfl, fin _ ?_⟩
        rw [chr_z]
        show _ = (decide (97 ≤ c) && decide (c ≤ 122))
        rw [decide_eq_true ha, Bool.true_and]
      · rw [decide_eq_false ha]
        refine fin _ ?_
        show _ = (decide (97 ≤ c) && decide (c ≤ 122))
        rw [decide_eq_false ha, Bool.false_and]
    · rintro H6 ⟨s6, hD⟩
      refine ⟨D, x.cps.toList.map low, rfl, SqL.of ?_, k H6 s6⟩
      rw [hzs, List.take_length] at hD
      rw [hD, List.map_map]
      rfl
  | _ => exact k H (Same.refl H)
end
end K00
end
section
set_option Elab.async false
set_option linter.all false
set_option maxRecDepth 100000
set_option maxHeartbeats 4000000
set_option pp.maxSteps 2000
namespace K00
open PySem PySem.Spec PyProof.Rows L2 Tg
local macro_rules | `(tactic| walk_at "c") => `(tactic| first | assumption | trivial | omega | (constructor <;> omega) | decide | exact len_ok (Nat.le_of_ble_eq_true rfl))
local macro_rules | `(tactic| walk_at "sq") => `(tactic| first | exact SqL.of (by assumption) | exact SqL.of upd_same | assumption | exact SqT.of (by assumption) | exact SqT.of upd_same | exact .inl (SqL.of (by assumption)) | exact .inr (SqT.of (by assumption)))
local macro_rules | `(tactic| walk_at "r1") => `(tactic| first
  | refine ⟨_, rfl, ?_⟩
  | refine ⟨_, _, rfl, rfl, ?_⟩
  | refine .inl ⟨_, rfl, ?_⟩
  | refine .inr ⟨_, rfl, ?_⟩
  | (apply Exists.intro; apply Exists.intro; apply Exists.intro; apply Exists.intro; refine And.intro rfl (And.intro rfl (And.intro ?sq ?_)); (case sq => walk_at "sq"); refine And.intro rfl ?_)
  | (apply Exists.intro; apply Exists.intro; apply Exists.intro; apply Exists.intro; refine And.intro rfl (And.intro rfl (And.intro ?hp ?_)); (case hp => first | assumption | exact upd_same); refine And.intro rfl ?_)
  | (refine And.intro ?c ?_; (case c => walk_at "c")))
local macro_rules | `(tactic| walk_at "r") => `(tactic| repeat walk_at "r1")
mutual
/-- a document -/
def isDoc : PyData → Bool
  | .list ds => isDocL ds
  | .dict kds => isDocK kds
  | .tuple _ => false
  | .none | .bool _ | .int _ | .str _ => true
def isDocL : List PyData → Bool
  | [] => true
  | d :: ds => isDoc d && isDocL ds
def isDocK : List (PyData × PyData) → Bool
  | [] => true
  | (k, d) :: r => (isNm k && isDoc d) && isDocK r
end
def lookS (x : Str) : List (PyData × PyData) → Option PyData
  | [] => none
  | (.str y, d) :: r => if y = x then some d else lookS x r
  | (_, d) :: r => lookS x r
/-- no text is a key twice -/
def ndK : List (PyData × PyData) → Bool
  | [] => true
  | (.str x, _) :: r => (lookS x r).isNone && ndK r
  | _ :: r => ndK r
mutual
/-- no list or dict of it is longer than B, no text and no int is great -/
def okD (B : Nat) : PyData → Bool
  | .none | .bool _ => true
  | .int i => decide (i.natAbs < 18446744073709551616 ∧ (PyData.int i).showable = true ∧ (PyData.int i).shown.length ≤ 40)
  | .str x => decide (x.length ≤ 100 ∧ PyData.strOk x = true ∧ (PyData.str x).shown.length ≤ 40)
  | .list ds => decide (ds.length ≤ B) && okL B ds
  | .tuple ds => decide (ds.length ≤ B) && okL B ds
  | .dict kds => decide (kds.length ≤ B ∧ ndK kds = true) && okK B kds
def okL (B : Nat) : List PyData → Bool
  | [] => true
  | d :: ds => okD B d && okL B ds
def okK (B : Nat) : List (PyData × PyData) → Bool
  | [] => true
  | (k, d) :: r => (okD 0 k && okD B d) && okK B r
end
theorem docL_all : ∀ ds : List PyData, isDocL ds = (ds.map isDoc).all id
  | [] => by simp [isDocL]
  | d :: ds => by simp [isDocL, docL_all ds]
theorem docK_all : ∀ kds : List (PyData × PyData), isDocK kds = (kds.map fun p => isNm p.1 && isDoc p.2).all id
  | [] => by simp [isDocK]
  | (k, d) :: r => by simp [isDocK, docK_all r]
theorem okL_get {B : Nat} : ∀ {ds : List PyData} {d : PyData}, okL B ds = true → d ∈ ds → okD B d = true ∧ d.depth ≤ PyData.depthAll ds
  | e :: ds, d, h, m => by
    simp only [okL, Bool.and_eq_true] at h
    simp only [PyData.depthAll]
    rcases List.mem_cons.mp m with rfl | m
    · exact ⟨h.1, by omega⟩
    · obtain ⟨a, b⟩ := okL_get h.2 m
      exact ⟨a, by omega⟩
theorem okK_get {B : Nat} : ∀ {kds : List (PyData × PyData)} {k d : PyData}, okK B kds = true → (k, d) ∈ kds → okD 0 k = true ∧ okD B d = true ∧ d.depth ≤ PyData.depthKv kds
  | (k', e) :: ds, k, d, h, m => by
    simp only [okK, Bool.and_eq_true] at h
    simp only [PyData.depthKv]
    rcases List.mem_cons.mp m with m | m
    · cases m
      exact ⟨h.1.1, h.1.2, by omega⟩
    · obtain ⟨a, b, c⟩ := okK_get h.2 m
      exact ⟨a, b, by omega⟩
theorem rpL_get {H : Hp} : ∀ {ds : List PyData} {xs : List V} {i : Nat} {x : V}, RpL H ds xs → xs[i]? = some x → ∃ d, ds[i]? = some d ∧ Rp H d x
  | [], xs, i, x, r, h => by
    simp only [RpL] at r
    subst r
    cases h
  | d :: ds, xs, i, x, r, h => by
    simp only [RpL] at r
    obtain ⟨y, l, rfl, r1, r2⟩ := r
    cases i with
    | zero => cases h; exact ⟨d, rfl, r1⟩
    | succ i => exact rpL_get (i := i) r2 h
theorem rpL_len {H : Hp} : ∀ {ds : List PyData} {xs : List V}, RpL H ds xs → ds.length = xs.length
  | [], xs, r => by
    simp only [RpL] at r
    subst r
    rfl
  | d :: ds, xs, r => by
    simp only [RpL] at r
    obtain ⟨y, l, rfl, r1, r2⟩ := r
    simp [rpL_len r2]
theorem rpD_get {H : Hp} : ∀ {ds : List (PyData × PyData)} {xs : List (Key × V)} {i : Nat} {k : Key} {x : V}, RpD H ds xs → xs[i]? = some (k, x) → ∃ d, ds[i]? = some (kD k, d) ∧ Rp H d x
  | [], xs, i, k, x, r, h => by
    simp only [RpD] at r
    subst r
    cases h
  | (ky, d) :: ds, xs, i, k, x, r, h => by
    simp only [RpD] at r
    obtain ⟨kk, y, l, rfl, rfl, r1, r2⟩ := r
    cases i with
    | zero => cases h; exact ⟨d, rfl, r1⟩
    | succ i => exact rpD_get (i := i) r2 h
theorem rpD_len {H : Hp} : ∀ {ds : List (PyData × PyData)} {xs : List (Key × V)}, RpD H ds xs → ds.length = xs.length
  | [], xs, r => by
    simp only [RpD] at r
    subst r
    rfl
  | (ky, d) :: ds, xs, r => by
    simp only [RpD] at r
    obtain ⟨kk, y, l, rfl, e, r1, r2⟩ := r
    simp [rpD_len r2]
theorem rp_key {H : Hp} : ∀ k : Key, Rp H (kD k) (kV k)
  | .inl i => by simp [kD, kV, Rp]
  | .inr x => by simp [kD, kV, Rp]
/-- of data at most n deep -/
def spDoc (B n : Nat) : Sp := fun vs H Q _ => ∃ (v : V) (d : PyData), vs = [v] ∧ Rp H d v ∧ okD B d = true ∧ d.depth < n ∧ ∀ H', Same H H' → Q (.bl (isDoc d)) H'
/-- a comprehension whose parts are f 0, f 1, ..; nothing is changed -/
theorem lc_vals {J : It} {n : Nat} {G : Hp → Prop} {Y : Nat → Hp → V → Hp → Prop} (w : Walk J n G Y) {g : TG} {te : TE} {vs : List Nat} {σ : L2.St} {H0 H1 : Hp} {D : Addr} {Qd : Hp → Prop} (f : Nat → V) (h01 : Same H0 H1) (nD : H1 D = none) (hn : n ≤ 1000) (hG : ∀ H, Same H0 H → G H)
    (hs : ∀ i x H H', i < n → Same H0 H → Y i H x H' → ∀ Qc : VK, (∀ H3, Same H H3 → Qc (f i) H3) → g x (wipe σ vs) H' fun σ2 H2 => wipe σ2 vs = wipe σ vs ∧ te σ2 H2 Qc)
    (hd : ∀ H, Same H0 H → H D = some (.lst ((List.range n).map f)) → Qd H) :
    ∃ W : Nat → Nat → Hp → Prop, (∃ m, W 0 m (upd H1 D (.lst []))) ∧ ∀ i m H, W i m H →
      (J.stop i H ∧ Qd H) ∨ (J.go i H ∧ ∃ Nx : Hp → Prop, (∀ H', Nx H' → ∃ m', m' < m ∧ W (i + 1) m' H') ∧ ∀ x H', J.yld i H x H' → g x (wipe σ vs) H' fun σ2 H2 => wipe σ2 vs = wipe σ vs ∧ tYes σ2 H2 fun b H3 =>
        if b = true then te σ2 H3 fun y H4 => ∃ acc, H4 D = some (.lst acc) ∧ acc.length < sizeLine ∧ Nx (upd H4 D (.lst (acc ++ [y]))) else Nx H3) := by
  have n0 : H0 D = none := by
    cases q : H0 D with
    | none => rfl
    | some o => rw [h01 _ _ q] at nD; cases nD
  refine lc_it w (fun j H => Same H0 H ∧ H D = some (.lst ((List.range j).map f))) ⟨h01.trans (same_new nD), upd_same⟩ (fun i H _ p => hG H p.1) ?_ fun H p => hd H p.1 p.2
  rintro i x H H' hi ⟨s, hD⟩ y
  refine hs i x H H' hi s y _ fun H3 s3 => ⟨_, s3 _ _ hD, ?_, fun b o e => ?_, ?_⟩
  · rw [List.length_map, List.length_range, sizeLine_eq]
    omega
  · rw [upd_ne (ne_of_none e n0)]
    exact s3 _ _ (s _ _ e)
  · rw [upd_same, List.range_succ, List.map_append]
    rfl
theorem range_get {α β : Type} {xs : List α} {f : α → β} {g : Nat → β} (h : ∀ i x, xs[i]? = some x → g i = f x) : (List.range xs.length).map g = xs.map f := by
  apply List.ext_getElem?
  intro i
  rw [List.getElem?_map, List.getElem?_map]
  by_cases hi : i < xs.length
  · rw [List.getElem?_range hi, List.getElem?_eq_getElem hi]
    show some (g i) = some (f xs[i])
    rw [h i xs[i] (List.getElem?_eq_getElem hi)]
  · rw [List.getElem?_eq_none (by simp; omega), List.getElem?_eq_none (by omega)]
    rfl
section
variable {P : Program} {w : World} {K : PySem.W.Frag} {mg : Str → Option Value} {base : Heap}
theorem doc_step (T : Tx P K mg) {B n k : Nat} (hB : B ≤ 1000) (G_is_document : FnOk P w K mg base CX0 (k + 1) T.a_is_document T.fd_is_document ["value"] (spDoc B n)) : FnOk P w K mg base CX0 (k + 2) T.a_is_document T.fd_is_document ["value"] (spDoc B (n + 1)) := by
  have G_is_name := ok_name (w := w) (base := base) T
  refine T.F_is_document.ok sc_is_document (fun vs H Q E h => ?_) (fun cdv A outer s H vs Q E hr h => ?_)
  · obtain ⟨v, d, rfl, _⟩ := h
    rfl
  obtain ⟨v, d, rfl, rd, hok, hdp, k⟩ := h
  refine ⟨_, (pss_cons (ps_if (pt_val (pe_callB call_isD (by rfl) T.n_isinstance PyProof.Rows.Boot.«isinstance» (pa_cons (pv 0) (pa_cons (pe_bltn (v := .ty "list") (by rfl) T.n_list PyProof.Rows.Boot.«list» rfl) pa_nil)))) (pss_one (ps_ret (pe_callB (cr_all rfl) (by rfl) T.n_all PyProof.Rows.Boot.«all» (pa_cons (pe_lc (own := [("part", 1)]) (g := gName 1) (tt := tYes) (by rfl) sc_is_document.nd (pi_list (pv 0)) (blkOk_by (own := [("part", 1)]) (N := ["value", "part", "field"]) (sc := defScope s_is_document) (by decide +kernel)) (fun _ _ _ _ _ => (pg_name (i := 1) sc_is_document.nd rfl (Or.inl rfl))) (fun _ _ _ _ _ => pts_nil) (fun _ _ _ _ _ => (pe_call G_is_document (hr.mono (by first | decide | omega)) (by rfl) T.m_is_document T.F_is_document.kp T.b_is_document .nil pass0 (pa_cons (pv 1) pa_nil)))) pa_nil)))) pss_nil)
      (pss_cons (ps_if (pt_val (pe_callB call_isD (by rfl) T.n_isinstance PyProof.Rows.Boot.«isinstance» (pa_cons (pv 0) (pa_cons (pe_bltn (v := .ty "dict") (by rfl) T.n_dict PyProof.Rows.Boot.«dict» rfl) pa_nil)))) (pss_one (ps_ret (pe_callB (cr_all rfl) (by rfl) T.n_all PyProof.Rows.Boot.«all» (pa_cons (pe_lc (own := [("field", 2), ("part", 1)]) (g := gTup K 2 (gCons (gName 2) (gCons (gName 1) (gNil)))) (tt := tYes) (by rfl) sc_is_document.nd (pi_itemsN (pv 0)) (blkOk_by (own := [("field", 2), ("part", 1)]) (N := ["value", "part", "field"]) (sc := defScope s_is_document) (by decide +kernel)) (fun _ _ _ _ _ => (pg_tup rfl (pgs_cons (pg_name (i := 2) sc_is_document.nd rfl (Or.inl rfl)) (pgs_cons (pg_name (i := 1) sc_is_document.nd rfl (Or.inl rfl)) pgs_nil)))) (fun _ _ _ _ _ => pts_nil) (fun _ _ _ _ _ => (pe_and (pe_call G_is_name (hr.mono (by first | decide | omega)) (by rfl) T.m_is_name T.F_is_name.kp T.b_is_name .nil pass0 (pa_cons (pv 2) pa_nil)) (pe_one (pe_call G_is_document (hr.mono (by first | decide | omega)) (by rfl) T.m_is_document T.F_is_document.kp T.b_is_document .nil pass0 (pa_cons (pv 1) pa_nil)))))) pa_nil)))) pss_nil)
      (pss_one (ps_ret (pe_or (pe_cmpR op_isN (pv 0) pe_non (nomark _)) (pe_one (pe_callB call_isDT (by rfl) T.n_isinstance PyProof.Rows.Boot.«isinstance» (pa_cons (pv 0) (pa_cons (pe_tup (pa_cons (pe_bltn (v := .ty "bool") (by rfl) T.n_bool PyProof.Rows.Boot.«bool» rfl) (pa_cons (pe_bltn (v := .ty "int") (by rfl) T.n_int PyProof.Rows.Boot.«int» rfl) (pa_cons (pe_bltn (v := .ty "str") (by rfl) T.n_str PyProof.Rows.Boot.«str» rfl) pa_nil)))) pa_nil))))))))), ?_⟩
  cases d with
  | list ds =>
    have rd0 := rd
    simp only [Rp] at rd
    obtain ⟨a, o, xs, rfl, ha, rl⟩ := rd
    simp only [okD, Bool.and_eq_true, decide_eq_true_eq] at hok
    simp only [PyData.depth] at hdp
    have hlen := rpL_len rl
    refine ⟨_, rfl, _, _, _, _, true, rfl, .ty _, rd0, rfl, _, rfl, ?_⟩
    refine iT ?_
    refine ⟨_, rfl, a, rfl, ⟨xs, .inl (.inr ⟨o, ha⟩)⟩, fun D nD => lc_vals walk_list (fun i => V.bl (isDoc (ds.getD i .none))) (Same.refl H) nD (by omega) (fun H1 s1 => .inl (.inr ⟨o, s1 _ _ ha⟩)) ?_ ?_⟩
    · rintro i x H1 H2 hi s1 ⟨rfl, hx⟩ Qc kc
      obtain ⟨d, hd, rx⟩ := rpL_get rl hx
      obtain ⟨o1, o2⟩ := okL_get hok.2 (List.mem_of_getElem? hd)
      have ed : ds.getD i .none = d := by rw [List.getD_eq_getElem?_getD, hd]; rfl
      rw [ed] at kc
      exact ⟨rfl, _, rfl, x, d, rfl, rx.same s1, o1, by omega, fun H3 s3 => kc H3 s3⟩
    · intro H1 s1 hD
      refine ⟨D, ds.map isDoc, rfl, SqL.of ?_, ?_⟩
      · rw [hD, ← hlen, range_get (f := fun d => V.bl (isDoc d)) (fun i x hx => by rw [List.getD_eq_getElem?_getD, hx]; rfl), List.map_map]
        rfl
      · have e : isDoc (.list ds) = (ds.map isDoc).all id := by rw [← docL_all, isDoc]
        rw [← e]
        exact k H1 s1
  | dict kds =>
    have rd0 := rd
    simp only [okD, Bool.and_eq_true, decide_eq_true_eq] at hok
    simp only [PyData.depth] at hdp
    refine ⟨_, rfl, _, _, _, _, false, rfl, .ty _, rd0, rfl, _, rfl, ?_⟩
    refine iF ?_
    refine ⟨_, rfl, _, _, _, _, true, rfl, .ty _, rd0, rfl, _, rfl, ?_⟩
    refine iT ?_
    have e : isDoc (.dict kds) = (kds.map fun p => isNm p.1 && isDoc p.2).all id := by rw [← docK_all, isDoc]
    rw [e] at k
    simp only [Rp] at rd
    rcases rd with ⟨a, o, kvs, rfl, ha, rl⟩ | ⟨rfl, a, o, rfl, ha, no, sm⟩
    · have hlen := rpD_len rl
      refine ⟨_, rfl, a, o, rfl, .inl ⟨kvs, ha, fun D nD => lc_vals walk_items (fun i => V.bl (isNm (kds.getD i (.none, .none)).1 && isDoc (kds.getD i (.none, .none)).2)) (Same.refl H) nD (by omega) (fun H1 s1 => s1 _ _ ha) ?_ ?_⟩⟩
      · rintro i x H1 H2 hi s1 ⟨t, y, z, rfl, nt, rfl, ey, ez⟩ Qc kc
        dsimp only at ey ez
        cases hkv : kvs[i]? with
        | none => rw [hkv] at ey; cases ey
        | some kv =>
          obtain ⟨ky, v⟩ := kv
          rw [hkv] at ey ez
          cases ey
          cases ez
          obtain ⟨d, hd, rx⟩ := rpD_get rl hkv
          obtain ⟨o1, o2, o3⟩ := okK_get hok.2 (List.mem_of_getElem? hd)
          have ed : kds.getD i (.none, .none) = (kD ky, d) := by rw [List.getD_eq_getElem?_getD, hd]; rfl
          rw [ed] at kc
          have s2 : Same H1 (upd H1 t (.tup [kV ky, v])) := same_new nt
          refine ⟨t, _, rfl, SqT.of upd_same, rfl, _, _, rfl, _, _, rfl, rfl, rfl, ?_⟩
          refine ⟨_, rfl, _, kD ky, rfl, rp_key ky, fun x hx => ?_, fun H3 s3 => ?_⟩
          · rw [hx] at o1
            simp only [okD, decide_eq_true_eq] at o1
            rw [sizeLine_eq]
            omega
          · refine ⟨_, rfl, ?_⟩
            cases hq : isNm (kD ky) with
            | false =>
              rw [hq] at kc
              exact kc H3 (s2.trans s3)
            | true =>
              rw [hq] at kc
              exact ⟨_, rfl, v, d, rfl, rx.same (s1.trans (s2.trans s3)), o2, by omega, fun H4 s4 => kc H4 (s2.trans (s3.trans s4))⟩
      · intro H1 s1 hD
        refine ⟨D, kds.map fun p => isNm p.1 && isDoc p.2, rfl, SqL.of ?_, k H1 s1⟩
        rw [hD, ← hlen, range_get (f := fun p : PyData × PyData => V.bl (isNm p.1 && isDoc p.2)) (fun i x hx => by rw [List.getD_eq_getElem?_getD, hx]; rfl), List.map_map]
        rfl
    · refine ⟨_, rfl, a, o, rfl, .inr ⟨ha, no, sm, fun D nD => lc_vals walk_itemsN (fun i => V.bl false) (Same.refl H) nD (by decide) (fun H1 s1 => ⟨s1 _ _ ha, no, sm⟩) ?_ ?_⟩⟩
      · rintro i x H1 H2 hi s1 ⟨t, rfl, nt, rfl⟩ Qc kc
        have s2 : Same H1 (upd H1 t (.tup [.non, .int 1])) := same_new nt
        refine ⟨t, _, rfl, SqT.of upd_same, rfl, _, _, rfl, _, _, rfl, rfl, rfl, ?_⟩
        exact ⟨_, rfl, _, .none, rfl, by simp only [Rp], (fun x hx => nomatch hx), fun H3 s3 => ⟨false, rfl, kc H3 (s2.trans s3)⟩⟩
      · intro H1 s1 hD
        exact ⟨D, [false], rfl, SqL.of hD, k H1 s1⟩
  | none =>
    have rd0 := rd
    simp only [Rp] at rd
    subst rd
    refine ⟨_, rfl, _, _, _, _, false, rfl, .ty _, rd0, rfl, _, rfl, iF ⟨_, rfl, _, _, _, _, false, rfl, .ty _, rd0, rfl, _, rfl, iF ⟨_, rfl, rfl, true, rfl, k H (Same.refl H)⟩⟩⟩
  | tuple ds =>
    have rd0 := rd
    simp only [Rp] at rd
    obtain ⟨a, xs, rfl, ha, rl⟩ := rd
    refine ⟨_, rfl, _, _, _, _, false, rfl, .ty _, rd0, rfl, _, rfl, iF ⟨_, rfl, _, _, _, _, false, rfl, .ty _, rd0, rfl, _, rfl, iF ⟨_, rfl, rfl, false, rfl, ?_⟩⟩⟩
    refine ⟨_, rfl, len_ok (by show 3 ≤ 1000; decide), fun p np => ?_⟩
    exact ⟨_, p, _, _, [.type "bool", .type "int", .type "str"], false, rfl, upd_same, .cons (.ty _) (.cons (.ty _) (.cons (.ty _) .nil)), rd0.same (same_new np), rfl, k _ (same_new np)⟩
  | bool b =>
    have rd0 := rd
    simp only [Rp] at rd
    subst rd
    refine ⟨_, rfl, _, _, _, _, false, rfl, .ty _, rd0, rfl, _, rfl, iF ⟨_, rfl, _, _, _, _, false, rfl, .ty _, rd0, rfl, _, rfl, iF ⟨_, rfl, rfl, false, rfl, ?_⟩⟩⟩
    refine ⟨_, rfl, len_ok (by show 3 ≤ 1000; decide), fun p np => ?_⟩
    exact ⟨_, p, _, _, [.type "bool", .type "int", .type "str"], true, rfl, upd_same, .cons (.ty _) (.cons (.ty _) (.cons (.ty _) .nil)), rd0.same (same_new np), rfl, k _ (same_new np)⟩
  | int i =>
    have rd0 := rd
    simp only [Rp] at rd
    subst rd
    refine ⟨_, rfl, _, _, _, _, false, rfl, .ty _, rd0, rfl, _, rfl, iF ⟨_, rfl, _, _, _, _, false, rfl, .ty _, rd0, rfl, _, rfl, iF ⟨_, rfl, rfl, false, rfl, ?_⟩⟩⟩
    refine ⟨_, rfl, len_ok (by show 3 ≤ 1000; decide), fun p np => ?_⟩
    exact ⟨_, p, _, _, [.type "bool", .type "int", .type "str"], true, rfl, upd_same, .cons (.ty _) (.cons (.ty _) (.cons (.ty _) .nil)), rd0.same (same_new np), rfl, k _ (same_new np)⟩
  | str z =>
    have rd0 := rd
    simp only [Rp] at rd
    subst rd
    refine ⟨_, rfl, _, _, _, _, false, rfl, .ty _, rd0, rfl, _, rfl, iF ⟨_, rfl, _, _, _, _, false, rfl, .ty _, rd0, rfl, _, rfl, iF ⟨_, rfl, rfl, false, rfl, ?_⟩⟩⟩
    refine ⟨_, rfl, len_ok (by show 3 ≤ 1000; decide), fun p np => ?_⟩
    exact ⟨_, p, _, _, [.type "bool", .type "int", .type "str"], true, rfl, upd_same, .cons (.ty _) (.cons (.ty _) (.cons (.ty _) .nil)), rd0.same (same_new np), rfl, k _ (same_new np)⟩
/-- is_document, of data at most n deep -/
theorem ok_doc (T : Tx P K mg) {B : Nat} (hB : B ≤ 1000) : ∀ n : Nat, FnOk P w K mg base CX0 (n + 1) T.a_is_document T.fd_is_document ["value"] (spDoc B n)
  | 0 => ⟨fun vs H Q E h => by
      obtain ⟨_, _, _, _, _, z, _⟩ := h
      exact absurd z (Nat.not_lt_zero _), fun A outer s H args us vs Q E hr e0 hb r h => by
      obtain ⟨_, _, _, _, _, z, _⟩ := h
      exact absurd z (Nat.not_lt_zero _)⟩
  | n + 1 => doc_step T hB (ok_doc T hB n)
end
end K00
end
section
set_option Elab.async false
set_option linter.all false
set_option maxRecDepth 100000
set_option maxHeartbeats 4000000
set_option pp.maxSteps 2000
namespace K00
open PySem PySem.Spec PyProof.Rows L2 Tg
local macro_rules | `(tactic| walk_at "c") => `(tactic| first | assumption | trivial | omega | (constructor <;> omega) | decide | exact len_ok (Nat.le_of_ble_eq_true rfl))
local macro_rules | `(tactic| walk_at "sq") => `(tactic| first | exact SqL.of (by assumption) | exact SqL.of upd_same | assumption | exact SqT.of (by assumption) | exact SqT.of upd_same | exact .inl (SqL.of (by assumption)) | exact .inr (SqT.of (by assumption)))
local macro_rules | `(tactic| walk_at "r1") => `(tactic| first
  | refine ⟨_, rfl, ?_⟩
  | refine ⟨_, _, rfl, rfl, ?_⟩
  | refine .inl ⟨_, rfl, ?_⟩
  | refine .inr ⟨_, rfl, ?_⟩
  | (apply Exists.intro; apply Exists.intro; apply Exists.intro; apply Exists.intro; refine And.intro rfl (And.intro rfl (And.intro ?sq ?_)); (case sq => walk_at "sq"); refine And.intro rfl ?_)
  | (apply Exists.intro; apply Exists.intro; apply Exists.intro; apply Exists.intro; refine And.intro rfl (And.intro rfl (And.intro ?hp ?_)); (case hp => first | assumption | exact upd_same); refine And.intro rfl ?_)
  | (refine And.intro ?c ?_; (case c => walk_at "c")))
local macro_rules | `(tactic| walk_at "r") => `(tactic| repeat walk_at "r1")
mutual
def parts : PyData → Int
  | .list ds => 1 + partsL ds
  | .dict kds => 1 + partsK kds
  | _ => 1
def partsL : List PyData → Int
  | [] => 0
  | d :: ds => parts d + partsL ds
def partsK : List (PyData × PyData) → Int
  | [] => 0
  | (_, d) :: r => parts d + partsK r
end
def spChk (C : Addr) (B n : Nat) : Sp := fun vs H Q E => ∃ (v : V) (d : PyData), vs = [v] ∧ Rp H d v ∧ okD B d = true ∧ d.depth < n ∧
  (isDoc d = true → ∀ H', Same H H' → Q .non H') ∧ (isDoc d = false → ∀ H' dd, Same H H' → H' dd = none → E (.ref C) (some dd) (upd H' dd (.xd [("value", v)])))
def spParts (B n : Nat) : Sp := fun vs H Q _ => ∃ (v : V) (d : PyData), vs = [v] ∧ Rp H d v ∧ okD B d = true ∧ d.depth < n ∧ isDoc d = true ∧ ∀ H', Same H H' → Q (.int (parts d)) H'
theorem partsL_sum : ∀ ds : List PyData, partsL ds = (ds.map parts).sum
  | [] => by simp [partsL]
  | d :: ds => by simp [partsL, partsL_sum ds]
theorem partsK_sum : ∀ ds : List (PyData × PyData), partsK ds = (ds.map fun p => parts p.2).sum
  | [] => by simp [partsK]
  | (k, d) :: ds => by simp [partsK, partsK_sum ds]
theorem docL_get : ∀ {ds : List PyData} {d : PyData}, isDocL ds = true → d ∈ ds → isDoc d = true
  | e :: ds, d, h, m => by
    simp only [isDocL, Bool.and_eq_true] at h
    rcases List.mem_cons.mp m with rfl | m
    · exact h.1
    · exact docL_get h.2 m
theorem docK_get : ∀ {ds : List (PyData × PyData)} {k d : PyData}, isDocK ds = true → (k, d) ∈ ds → isNm k = true ∧ isDoc d = true
  | (k', e) :: ds, k, d, h, m => by
    simp only [isDocK, Bool.and_eq_true] at h
    rcases List.mem_cons.mp m with m | m
    · cases m
      exact h.1
    · exact docK_get h.2 m
/-- a record that is a document stands as a dict of names -/
theorem doc_dict {H : Hp} {kds : List (PyData × PyData)} {v : V} (r : Rp H (.dict kds) v) (h : isDoc (.dict kds) = true) : ∃ a o kvs, v = .ref a ∧ H a = some (.frz o (.dK kvs)) ∧ RpD H kds kvs := by
  simp only [Rp] at r
  rcases r with r | ⟨rfl, _⟩
  · exact r
  · simp [isDoc, isDocK, isNm] at h
section
variable {P : Program} {w : World} {K : PySem.W.Frag} {mg : Str → Option Value} {base : Heap}
theorem ok_chk (T : Tx P K mg) {B : Nat} (hB : B ≤ 1000) (n : Nat) : FnOk P w K mg base (L2.CX P w) (n + 3) T.a_check_document T.fd_check_document ["value"] (spChk T.C_NoDocument B n) := by
  have G_is_document := ok_doc (w := w) (base := base) T hB n
  refine T.F_check_document.okX sc_check_document (fun vs H Q E h => ?_) (fun cdv A outer s H vs Q E hr h => ?_)
  · obtain ⟨v, d, rfl, _⟩ := h
    rfl
  obtain ⟨v, d, rfl, rd, hok, hdp, k1, k2⟩ := h
  refine ⟨_, (pss_one (ps_if (pt_not (pt_val (pe_call G_is_document (hr.mono (by first | decide | omega)) (by rfl) T.m_is_document T.F_is_document.kp T.b_is_document .nil pass0 (pa_cons (pv 0) pa_nil)))) (pss_one (ps_raiseE rfl (takes_of rfl rfl rfl rfl) T.e_NoDocument T.ini (hr.mono (by first | decide | omega)) (by rfl) T.m_NoDocument T.b_ini (pv 0))) pss_nil)), ?_⟩
  refine ⟨_, rfl, v, d, rfl, rd, hok, hdp, fun H1 s1 => ⟨_, rfl, ?_⟩⟩
  cases hq : isDoc d with
  | true => exact k1 hq H1 s1
  | false =>
    refine ⟨_, rfl, fun dd nd => ?_⟩
    exact k2 hq H1 dd s1 nd
theorem parts_step (T : Tx P K mg) {B n k : Nat} (hB : B ≤ 1000) (G_parts_in : FnOk P w K mg base CX0 (k + 1) T.a_parts_in T.fd_parts_in ["document"] (spParts B n)) : FnOk P w K mg base CX0 (k + 2) T.a_parts_in T.fd_parts_in ["document"] (spParts B (n + 1)) := by
  refine T.F_parts_in.ok sc_parts_in (fun vs H Q E h => ?_) (fun cdv A outer s H vs Q E hr h => ?_)
  · obtain ⟨v, d, rfl, _⟩ := h
    rfl
  obtain ⟨v, d, rfl, rd, hok, hdp, hdoc, k⟩ := h
  refine ⟨_, (pss_cons (ps_if (pt_val (pe_callB call_isD (by rfl) T.n_isinstance PyProof.Rows.Boot.«isinstance» (pa_cons (pv 0) (pa_cons (pe_bltn (v := .ty "list") (by rfl) T.n_list PyProof.Rows.Boot.«list» rfl) pa_nil)))) (pss_one (ps_ret (pe_op op_add pe_int (pe_callB (cr_sum rfl) (by rfl) T.n_sum PyProof.Rows.Boot.«sum» (pa_cons (pe_lc (own := [("part", 1)]) (g := gName 1) (tt := tYes) (by rfl) sc_parts_in.nd (pi_list (pv 0)) (blkOk_by (own := [("part", 1)]) (N := ["document", "part"]) (sc := defScope s_parts_in) (by decide +kernel)) (fun _ _ _ _ _ => (pg_name (i := 1) sc_parts_in.nd rfl (Or.inl rfl))) (fun _ _ _ _ _ => pts_nil) (fun _ _ _ _ _ => (pe_call G_parts_in (hr.mono (by first | decide | omega)) (by rfl) T.m_parts_in T.F_parts_in.kp T.b_parts_in .nil pass0 (pa_cons (pv 1) pa_nil)))) pa_nil))))) pss_nil)
      (pss_cons (ps_if (pt_val (pe_callB call_isD (by rfl) T.n_isinstance PyProof.Rows.Boot.«isinstance» (pa_cons (pv 0) (pa_cons (pe_bltn (v := .ty "dict") (by rfl) T.n_dict PyProof.Rows.Boot.«dict» rfl) pa_nil)))) (pss_one (ps_ret (pe_op op_add pe_int (pe_callB (cr_sum rfl) (by rfl) T.n_sum PyProof.Rows.Boot.«sum» (pa_cons (pe_lc (own := [("part", 1)]) (g := gName 1) (tt := tYes) (by rfl) sc_parts_in.nd (pi_values (pv 0)) (blkOk_by (own := [("part", 1)]) (N := ["document", "part"]) (sc := defScope s_parts_in) (by decide +kernel)) (fun _ _ _ _ _ => (pg_name (i := 1) sc_parts_in.nd rfl (Or.inl rfl))) (fun _ _ _ _ _ => pts_nil) (fun _ _ _ _ _ => (pe_call G_parts_in (hr.mono (by first | decide | omega)) (by rfl) T.m_parts_in T.F_parts_in.kp T.b_parts_in .nil pass0 (pa_cons (pv 1) pa_nil)))) pa_nil))))) pss_nil)
      (pss_one (ps_ret pe_int)))), ?_⟩
  have rd0 := rd
  cases d with
  | list ds =>
    simp only [Rp] at rd
    obtain ⟨a, o, xs, rfl, ha, rl⟩ := rd
    simp only [okD, Bool.and_eq_true, decide_eq_true_eq] at hok
    simp only [PyData.depth] at hdp
    rw [isDoc] at hdoc
    have hlen := rpL_len rl
    refine ⟨_, rfl, _, _, _, _, true, rfl, .ty _, rd0, rfl, _, rfl, iT ?_⟩
    refine ⟨_, rfl, a, rfl, ⟨xs, .inl (.inr ⟨o, ha⟩)⟩, fun D nD => lc_vals walk_list (fun i => V.int (parts (ds.getD i .none))) (Same.refl H) nD (by omega) (fun H1 s1 => .inl (.inr ⟨o, s1 _ _ ha⟩)) ?_ ?_⟩
    · rintro i x H1 H2 hi s1 ⟨rfl, hx⟩ Qc kc
      obtain ⟨d, hd, rx⟩ := rpL_get rl hx
      obtain ⟨o1, o2⟩ := okL_get hok.2 (List.mem_of_getElem? hd)
      have ed : ds.getD i .none = d := by rw [List.getD_eq_getElem?_getD, hd]; rfl
      rw [ed] at kc
      exact ⟨rfl, _, rfl, x, d, rfl, rx.same s1, o1, by omega, docL_get hdoc (List.mem_of_getElem? hd), fun H3 s3 => kc H3 s3⟩
    · intro H1 s1 hD
      refine ⟨D, ds.map parts, rfl, SqL.of ?_, _, _, rfl, rfl, ?_⟩
      · rw [hD, ← hlen, range_get (f := fun d => V.int (parts d)) (fun i x hx => by rw [List.getD_eq_getElem?_getD, hx]; rfl), List.map_map]
        rfl
      · rw [← partsL_sum]
        rw [parts] at k
        exact k H1 s1
  | dict kds =>
    obtain ⟨a, o, kvs, rfl, ha, rl⟩ := doc_dict rd hdoc
    simp only [okD, Bool.and_eq_true, decide_eq_true_eq] at hok
    simp only [PyData.depth] at hdp
    rw [isDoc] at hdoc
    have hlen := rpD_len rl
    refine ⟨_, rfl, _, _, _, _, false, rfl, .ty _, rd0, rfl, _, rfl, iF ⟨_, rfl, _, _, _, _, true, rfl, .ty _, rd0, rfl, _, rfl, iT ?_⟩⟩
    refine ⟨_, rfl, a, o, kvs, rfl, ha, fun D nD => lc_vals walk_values (fun i => V.int (parts (kds.getD i (.none, .none)).2)) (Same.refl H) nD (by omega) (fun H1 s1 => s1 _ _ ha) ?_ ?_⟩
    · rintro i x H1 H2 hi s1 ⟨rfl, ky, hkv⟩ Qc kc
      obtain ⟨d, hd, rx⟩ := rpD_get rl hkv
      obtain ⟨o1, o2, o3⟩ := okK_get hok.2 (List.mem_of_getElem? hd)
      have ed : kds.getD i (.none, .none) = (kD ky, d) := by rw [List.getD_eq_getElem?_getD, hd]; rfl
      rw [ed] at kc
      exact ⟨rfl, _, rfl, x, d, rfl, rx.same s1, o2, by omega, (docK_get hdoc (List.mem_of_getElem? hd)).2, fun H3 s3 => kc H3 s3⟩
    · intro H1 s1 hD
      refine ⟨D, kds.map fun p => parts p.2, rfl, SqL.of ?_, _, _, rfl, rfl, ?_⟩
      · rw [hD, ← hlen, range_get (f := fun p : PyData × PyData => V.int (parts p.2)) (fun i x hx => by rw [List.getD_eq_getElem?_getD, hx]; rfl), List.map_map]
        rfl
      · rw [← partsK_sum]
        rw [parts] at k
        exact k H1 s1
  | tuple ds => simp [isDoc] at hdoc
  | none => exact ⟨_, rfl, _, _, _, _, false, rfl, .ty _, rd0, rfl, _, rfl, iF ⟨_, rfl, _, _, _, _, false, rfl, .ty _, rd0, rfl, _, rfl, iF (k H (Same.refl H))⟩⟩
  | bool b => exact ⟨_, rfl, _, _, _, _, false, rfl, .ty _, rd0, rfl, _, rfl, iF ⟨_, rfl, _, _, _, _, false, rfl, .ty _, rd0, rfl, _, rfl, iF (k H (Same.refl H))⟩⟩
  | int b => exact ⟨_, rfl, _, _, _, _, false, rfl, .ty _, rd0, rfl, _, rfl, iF ⟨_, rfl, _, _, _, _, false, rfl, .ty _, rd0, rfl, _, rfl, iF (k H (Same.refl H))⟩⟩
  | str b => exact ⟨_, rfl, _, _, _, _, false, rfl, .ty _, rd0, rfl, _, rfl, iF ⟨_, rfl, _, _, _, _, false, rfl, .ty _, rd0, rfl, _, rfl, iF (k H (Same.refl H))⟩⟩
theorem ok_parts (T : Tx P K mg) {B : Nat} (hB : B ≤ 1000) : ∀ n : Nat, FnOk P w K mg base CX0 (n + 1) T.a_parts_in T.fd_parts_in ["document"] (spParts B n)
  | 0 => ⟨fun vs H Q E h => by
      obtain ⟨_, _, _, _, _, z, _⟩ := h
      exact absurd z (Nat.not_lt_zero _), fun A outer s H args us vs Q E hr e0 hb r h => by
      obtain ⟨_, _, _, _, _, z, _⟩ := h
      exact absurd z (Nat.not_lt_zero _)⟩
  | n + 1 => parts_step T hB (ok_parts T hB n)
def spSize (C : Addr) (B n : Nat) : Sp := fun vs H Q E => ∃ (v : V) (d : PyData), vs = [v] ∧ Rp H d v ∧ okD B d = true ∧ d.depth < n ∧
  (isDoc d = true → ∀ H', Same H H' → Q (.int (parts d)) H') ∧ (isDoc d = false → ∀ H' dd, Same H H' → H' dd = none → E (.ref C) (some dd) (upd H' dd (.xd [("value", v)])))
theorem ok_size (T : Tx P K mg) {B : Nat} (hB : B ≤ 1000) (n : Nat) : FnOk P w K mg base (L2.CX P w) (n + 4) T.a_size T.fd_size ["document"] (spSize T.C_NoDocument B n) := by
  have G_check_document := ok_chk (w := w) (base := base) T hB n
  have G_parts_in := ok_parts (w := w) (base := base) T hB n
  refine T.F_size.okX sc_size (fun vs H Q E h => ?_) (fun cdv A outer s H vs Q E hr h => ?_)
  · obtain ⟨v, d, rfl, _⟩ := h
    rfl
  obtain ⟨v, d, rfl, rd, hok, hdp, k1, k2⟩ := h
  refine ⟨_, (pss_cons (ps_expr (pe_call G_check_document (hr.mono (by first | decide | omega)) (by rfl) T.m_check_document T.F_check_document.kp T.b_check_document .nil (passes_call (takes_of rfl rfl rfl rfl) fun _ _ _ _ h => h) (pa_cons (pv 0) pa_nil)))
      (pss_one (ps_ret (pe_call G_parts_in (hr.mono (by first | decide | omega)) (by rfl) T.m_parts_in T.F_parts_in.kp T.b_parts_in .nil pass0 (pa_cons (pv 0) pa_nil))))), ?_⟩
  exact ⟨_, rfl, v, d, rfl, rd, hok, hdp, fun hq H1 s1 => ⟨_, rfl, v, d, rfl, rd.same s1, hok, hdp, hq, fun H2 s2 => k1 hq H2 (s1.trans s2)⟩, k2⟩
end
end K00
end
section
set_option Elab.async false
set_option linter.all false
set_option maxRecDepth 100000
set_option maxHeartbeats 4000000
set_option pp.maxSteps 2000
namespace K00
open PySem PySem.Spec PyProof.Rows L2 Tg
local macro_rules | `(tactic| walk_at "c") => `(tactic| first | assumption | trivial | omega | (constructor <;> omega) | decide | exact len_ok (Nat.le_of_ble_eq_true rfl))
local macro_rules | `(tactic| walk_at "sq") => `(tactic| first | exact SqL.of (by assumption) | exact SqL.of upd_same | assumption | exact SqT.of (by assumption) | exact SqT.of upd_same | exact .inl (SqL.of (by assumption)) | exact .inr (SqT.of (by assumption)))
local macro_rules | `(tactic| walk_at "r1") => `(tactic| first
  | refine ⟨_, rfl, ?_⟩
  | refine ⟨_, _, rfl, rfl, ?_⟩
  | refine .inl ⟨_, rfl, ?_⟩
  | refine .inr ⟨_, rfl, ?_⟩
  | (apply Exists.intro; apply Exists.intro; apply Exists.intro; apply Exists.intro; refine And.intro rfl (And.intro rfl (And.intro ?sq ?_)); (case sq => walk_at "sq"); refine And.intro rfl ?_)
  | (apply Exists.intro; apply Exists.intro; apply Exists.intro; apply Exists.intro; refine And.intro rfl (And.intro rfl (And.intro ?hp ?_)); (case hp => first | assumption | exact upd_same); refine And.intro rfl ?_)
  | (refine And.intro ?c ?_; (case c => walk_at "c")))
local macro_rules | `(tactic| walk_at "r") => `(tactic| repeat walk_at "r1")
/-- len of a list or a dict -/
def rLenR (K : PySem.W.Frag) : List V → Hp → VK → Prop := fun xs H Q => ∃ (a : Addr) (n : Nat), xs = [.ref a] ∧ ((∃ ys, SqL K H a ys ∧ n = ys.length) ∨ ∃ kvs, Rd H a (.dK kvs) ∧ n = kvs.length) ∧ Q (.int n) H
theorem call_lenR {X : Cx} : CallR X (.builtin "len") (rLenR X.K) := by
  rintro pins s σ H xs us Q I r ⟨a, n, rfl, ⟨ys, hs, rfl⟩ | ⟨kvs, hd, rfl⟩, q⟩
  · exact call_len pins s σ H _ us Q I r ⟨_, _, rfl, .inl ⟨ys, hs, rfl⟩, q⟩
  · obtain ⟨u, rfl, ru⟩ := vals1 r
    cases ru
    exact d_len I hd fun t s' I' => ⟨.int kvs.length, H, I', ⟨t, rfl⟩, q⟩
mutual
def sameD : PyData → PyData → Bool
  | .list xs, e => match e with | .list ys => decide (xs.length = ys.length) && sameL xs ys | _ => false
  | .dict xs, e => match e with | .dict ys => decide (xs.length = ys.length) && sameK xs ys | _ => false
  | .none, e => match e with | .none => true | _ => false
  | .bool a, e => match e with | .bool b => decide (a = b) | _ => false
  | .int a, e => match e with | .int b => decide (a = b) | _ => false
  | .str a, e => match e with | .str b => decide (a = b) | _ => false
  | .tuple _, _ => false
def sameL : List PyData → List PyData → Bool
  | [], _ => true
  | x :: xs, ys => match ys with | y :: ys => sameD x y && sameL xs ys | [] => true
def sameK : List (PyData × PyData) → List (PyData × PyData) → Bool
  | [], _ => true
  | (k, d) :: r, ys => (match k with | .str x => (match lookS x ys with | some e => sameD d e | none => false) | _ => false) && sameK r ys
end
def spSame (B n : Nat) : Sp := fun vs H Q _ => ∃ (v1 v2 : V) (d1 d2 : PyData), vs = [v1, v2] ∧ Rp H d1 v1 ∧ Rp H d2 v2 ∧ okD B d1 = true ∧ okD B d2 = true ∧ d1.depth < n ∧ isDoc d1 = true ∧ isDoc d2 = true ∧ ∀ H', Same H H' → Q (.bl (sameD d1 d2)) H'
def isL : PyData → Bool
  | .list _ => true
  | _ => false
def isM : PyData → Bool
  | .dict _ => true
  | _ => false
def isB : PyData → Bool
  | .bool _ => true
  | _ => false
theorem kit_l {K : PySem.W.Frag} (d : PyData) : PySem.W.kitOne K (tyD d) (.type "list") = some (isL d) := by cases d <;> rfl
theorem kit_m {K : PySem.W.Frag} (d : PyData) : PySem.W.kitOne K (tyD d) (.type "dict") = some (isM d) := by cases d <;> rfl
theorem kit_b {K : PySem.W.Frag} (d : PyData) : PySem.W.kitOne K (tyD d) (.type "bool") = some (isB d) := by cases d <;> rfl
theorem isL_list {d : PyData} (h : isL d = true) : ∃ ds, d = .list ds := by cases d <;> first | exact ⟨_, rfl⟩ | cases h
theorem isM_dict {d : PyData} (h : isM d = true) : ∃ ds, d = .dict ds := by cases d <;> first | exact ⟨_, rfl⟩ | cases h
theorem same_l {d e : PyData} (h : isL d ≠ isL e) : sameD d e = false := by
  cases d <;> cases e <;> first | rfl | (exact absurd rfl h) | simp [sameD]
theorem same_m {d e : PyData} (h : isM d ≠ isM e) : sameD d e = false := by
  cases d <;> cases e <;> first | rfl | (exact absurd rfl h) | simp [sameD]
theorem sameL_all : ∀ {xs ys : List PyData}, xs.length = ys.length → sameL xs ys = ((List.range xs.length).map fun i => sameD (xs.getD i .none) (ys.getD i .none)).all id
  | [], _, _ => by simp [sameL]
  | x :: xs, [], h => by simp at h
  | x :: xs, y :: ys, h => by
    have ih := sameL_all (xs := xs) (ys := ys) (by simpa using h)
    rw [sameL, ih, List.length_cons, List.range_succ_eq_map]
    simp [List.map_map, Function.comp_def]
def sameOne (ys : List (PyData × PyData)) (p : PyData × PyData) : Bool := match p.1 with
  | .str x => (match lookS x ys with | some e => sameD p.2 e | none => false)
  | _ => false
theorem sameK_all {ys : List (PyData × PyData)} : ∀ {xs : List (PyData × PyData)}, sameK xs ys = (xs.map (sameOne ys)).all id
  | [] => by simp [sameK]
  | (k, d) :: r => by
    cases k <;> simp only [sameK, sameK_all (xs := r), List.map_cons, List.all_cons] <;> rfl
theorem rpD_val {H : Hp} {z : Str} : ∀ {es : List (PyData × PyData)} {ys : List (Key × V)} {v : V}, RpD H es ys → valV ys (.inr z) = some v → ∃ e, lookS z es = some e ∧ Rp H e v ∧ (PyData.str z, e) ∈ es
  | [], ys, v, r, h => by
    simp only [RpD] at r
    subst r
    cases h
  | (k, d) :: es, ys, v, r, h => by
    simp only [RpD] at r
    obtain ⟨ky, x, l, rfl, rfl, r1, r2⟩ := r
    by_cases hk : ky = .inr z
    · subst hk
      have e : x = v := by simpa [valV] using h
      subst e
      exact ⟨d, by simp [lookS, kD], r1, by simp [kD]⟩
    · have h' : valV l (.inr z) = some v := by simpa [valV, hk] using h
      obtain ⟨e, e1, e2, e3⟩ := rpD_val r2 h'
      refine ⟨e, ?_, e2, List.mem_cons_of_mem _ e3⟩
      cases ky with
      | inl i => simpa [lookS, kD] using e1
      | inr y =>
        have ny : y ≠ z := fun q => hk (by rw [q])
        simpa [lookS, kD, ny] using e1
theorem rpD_val_none {H : Hp} {z : Str} : ∀ {es : List (PyData × PyData)} {ys : List (Key × V)}, RpD H es ys → valV ys (.inr z) = none → lookS z es = none
  | [], ys, r, h => rfl
  | (k, d) :: es, ys, r, h => by
    simp only [RpD] at r
    obtain ⟨ky, x, l, rfl, rfl, r1, r2⟩ := r
    by_cases hk : ky = .inr z
    · subst hk
      simp [valV] at h
    · have h' : valV l (.inr z) = none := by simpa [valV, hk] using h
      have e1 := rpD_val_none r2 h'
      cases ky with
      | inl i => simpa [lookS, kD] using e1
      | inr y =>
        have ny : y ≠ z := fun q => hk (by rw [q])
        simpa [lookS, kD, ny] using e1
section
variable {P : Program} {w : World} {K : PySem.W.Frag} {mg : Str → Option Value} {base : Heap}
theorem same_step (T : Tx P K mg) {B n k : Nat} (hB : B ≤ 1000) (G_are_same : FnOk P w K mg base CX0 (k + 1) T.a_are_same T.fd_are_same ["one", "other"] (spSame B n)) : FnOk P w K mg base CX0 (k + 2) T.a_are_same T.fd_are_same ["one", "other"] (spSame B (n + 1)) := by
  refine T.F_are_same.ok sc_are_same (fun vs H Q E h => ?_) (fun cdv A outer s H vs Q E hr h => ?_)
  · obtain ⟨v1, v2, d1, d2, rfl, _⟩ := h
    rfl
  obtain ⟨v1, v2, d1, d2, rfl, r1, r2, o1, o2, hdp, c1, c2, k⟩ := h
  refine ⟨_, (pss_cons (ps_if (PW.pt (pw_or (pt_val (pe_callB call_isD (by rfl) T.n_isinstance PyProof.Rows.Boot.«isinstance» (pa_cons (pv 0) (pa_cons (pe_bltn (v := .ty "list") (by rfl) T.n_list PyProof.Rows.Boot.«list» rfl) pa_nil)))) (pw_or1 (pt_val (pe_callB call_isD (by rfl) T.n_isinstance PyProof.Rows.Boot.«isinstance» (pa_cons (pv 1) (pa_cons (pe_bltn (v := .ty "list") (by rfl) T.n_list PyProof.Rows.Boot.«list» rfl) pa_nil))))))) (pss_cons (ps_if (PW.pt (pw_or (pt_not (pt_val (pe_callB call_isD (by rfl) T.n_isinstance PyProof.Rows.Boot.«isinstance» (pa_cons (pv 0) (pa_cons (pe_bltn (v := .ty "list") (by rfl) T.n_list PyProof.Rows.Boot.«list» rfl) pa_nil))))) (pw_or (pt_not (pt_val (pe_callB call_isD (by rfl) T.n_isinstance PyProof.Rows.Boot.«isinstance» (pa_cons (pv 1) (pa_cons (pe_bltn (v := .ty "list") (by rfl) T.n_list PyProof.Rows.Boot.«list» rfl) pa_nil))))) (pw_or1 (pt_cmpR op_ne (pe_callB call_lenR (by rfl) T.n_len PyProof.Rows.Boot.«len» (pa_cons (pv 0) pa_nil)) (pe_callB call_lenR (by rfl) T.n_len PyProof.Rows.Boot.«len» (pa_cons (pv 1) pa_nil)) (nomark _)))))) (pss_one (ps_ret pe_bl)) pss_nil)
      (pss_one (ps_ret (pe_callB (cr_all rfl) (by rfl) T.n_all PyProof.Rows.Boot.«all» (pa_cons (pe_lc (own := [("part", 2), ("twin", 3)]) (g := gTup K 2 (gCons (gName 2) (gCons (gName 3) (gNil)))) (tt := tYes) (by rfl) sc_are_same.nd (pi_zip (by rfl) T.n_zip (pa_cons (pv 0) (pa_cons (pv 1) pa_nil))) (blkOk_by (own := [("part", 2), ("twin", 3)]) (N := ["one", "other", "part", "twin", "field"]) (sc := defScope s_are_same) (by decide +kernel)) (fun _ _ _ _ _ => (pg_tup rfl (pgs_cons (pg_name (i := 2) sc_are_same.nd rfl (Or.inl rfl)) (pgs_cons (pg_name (i := 3) sc_are_same.nd rfl (Or.inl rfl)) pgs_nil)))) (fun _ _ _ _ _ => pts_nil) (fun _ _ _ _ _ => (pe_call G_are_same (hr.mono (by first | decide | omega)) (by rfl) T.m_are_same T.F_are_same.kp T.b_are_same .nil pass0 (pa_cons (pv 2) (pa_cons (pv 3) pa_nil))))) pa_nil))))) pss_nil)
      (pss_cons (ps_if (PW.pt (pw_or (pt_val (pe_callB call_isD (by rfl) T.n_isinstance PyProof.Rows.Boot.«isinstance» (pa_cons (pv 0) (pa_cons (pe_bltn (v := .ty "dict") (by rfl) T.n_dict PyProof.Rows.Boot.«dict» rfl) pa_nil)))) (pw_or1 (pt_val (pe_callB call_isD (by rfl) T.n_isinstance PyProof.Rows.Boot.«isinstance» (pa_cons (pv 1) (pa_cons (pe_bltn (v := .ty "dict") (by rfl) T.n_dict PyProof.Rows.Boot.«dict» rfl) pa_nil))))))) (pss_cons (ps_if (PW.pt (pw_or (pt_not (pt_val (pe_callB call_isD (by rfl) T.n_isinstance PyProof.Rows.Boot.«isinstance» (pa_cons (pv 0) (pa_cons (pe_bltn (v := .ty "dict") (by rfl) T.n_dict PyProof.Rows.Boot.«dict» rfl) pa_nil))))) (pw_or (pt_not (pt_val (pe_callB call_isD (by rfl) T.n_isinstance PyProof.Rows.Boot.«isinstance» (pa_cons (pv 1) (pa_cons (pe_bltn (v := .ty "dict") (by rfl) T.n_dict PyProof.Rows.Boot.«dict» rfl) pa_nil))))) (pw_or1 (pt_cmpR op_ne (pe_callB call_lenR (by rfl) T.n_len PyProof.Rows.Boot.«len» (pa_cons (pv 0) pa_nil)) (pe_callB call_lenR (by rfl) T.n_len PyProof.Rows.Boot.«len» (pa_cons (pv 1) pa_nil)) (nomark _)))))) (pss_one (ps_ret pe_bl)) pss_nil)
      (pss_one (ps_ret (pe_callB (cr_all rfl) (by rfl) T.n_all PyProof.Rows.Boot.«all» (pa_cons (pe_lc (own := [("field", 4), ("part", 2)]) (g := gTup K 2 (gCons (gName 4) (gCons (gName 2) (gNil)))) (tt := tYes) (by rfl) sc_are_same.nd (pi_itemsN (pv 0)) (blkOk_by (own := [("field", 4), ("part", 2)]) (N := ["one", "other", "part", "twin", "field"]) (sc := defScope s_are_same) (by decide +kernel)) (fun _ _ _ _ _ => (pg_tup rfl (pgs_cons (pg_name (i := 4) sc_are_same.nd rfl (Or.inl rfl)) (pgs_cons (pg_name (i := 2) sc_are_same.nd rfl (Or.inl rfl)) pgs_nil)))) (fun _ _ _ _ _ => pts_nil) (fun _ _ _ _ _ => (pe_and (pe_cmp (pc_din (hu_of hr) (pv 4) (pv 1))) (pe_one (pe_call G_are_same (hr.mono (by first | decide | omega)) (by rfl) T.m_are_same T.F_are_same.kp T.b_are_same .nil pass0 (pa_cons (pv 2) (pa_cons (pe_dget (hu_of hr) (pv 1) (pv 4) (fun _ _ => rfl)) pa_nil))))))) pa_nil))))) pss_nil)
      (pss_one (ps_ret (pe_and (pe_cmpR op_eq (pe_callB call_isD (by rfl) T.n_isinstance PyProof.Rows.Boot.«isinstance» (pa_cons (pv 0) (pa_cons (pe_bltn (v := .ty "bool") (by rfl) T.n_bool PyProof.Rows.Boot.«bool» rfl) pa_nil))) (pe_callB call_isD (by rfl) T.n_isinstance PyProof.Rows.Boot.«isinstance» (pa_cons (pv 1) (pa_cons (pe_bltn (v := .ty "bool") (by rfl) T.n_bool PyProof.Rows.Boot.«bool» rfl) pa_nil))) (nomark _)) (pe_one (pe_cmpR op_eq (pv 0) (pv 1) (nomark _)))))))), ?_⟩
  have no : ∀ b, b = false → sameD d1 d2 = b → ∀ H', Same H H' → Q (.bl false) H' := fun b e1 e2 H' s' => by
    rw [e2, e1] at k
    exact k H' s'
  refine ⟨_, rfl, _, _, d1, _, _, rfl, .ty _, r1, kit_l d1, _, rfl, ?_⟩
  cases h1 : isL d1 with
  | true =>
    refine iT (iT ?_)
    refine ⟨_, rfl, _, _, d1, _, _, rfl, .ty _, r1, kit_l d1, _, rfl, ?_⟩
    rw [h1]
    refine iF ?_
    refine ⟨_, rfl, _, _, d2, _, _, rfl, .ty _, r2, kit_l d2, _, rfl, ?_⟩
    cases h2 : isL d2 with
    | false => exact no _ rfl (same_l (by rw [h1, h2]; decide)) H (Same.refl H)
    | true =>
      refine iF ?_
      obtain ⟨ds, rfl⟩ := isL_list h1
      obtain ⟨es, rfl⟩ := isL_list h2
      simp only [Rp] at r1 r2
      obtain ⟨a1, p1, xs, rfl, ha1, l1⟩ := r1
      obtain ⟨a2, p2, ys, rfl, ha2, l2⟩ := r2
      simp only [okD, Bool.and_eq_true, decide_eq_true_eq] at o1 o2
      simp only [PyData.depth] at hdp
      rw [isDoc] at c1 c2
      have n1 := rpL_len l1
      have n2 := rpL_len l2
      refine ⟨_, rfl, a1, _, rfl, .inl ⟨xs, .inl (.inr ⟨p1, ha1⟩), rfl⟩, _, rfl, a2, _, rfl, .inl ⟨ys, .inl (.inr ⟨p2, ha2⟩), rfl⟩, rfl, _, rfl, ?_⟩
      by_cases hl : ds.length = es.length
      · have e1 : (!decide (V.int (xs.length : Int) = V.int (ys.length : Int))) = false := by
          rw [← n1, ← n2, hl]
          simp
        rw [e1]
        refine iF ?_
        have es1 : sameD (.list ds) (.list es) = ((List.range ds.length).map fun i => sameD (ds.getD i .none) (es.getD i .none)).all id := by
          rw [← sameL_all hl]
          simp [sameD, hl]
        rw [es1] at k
        refine ⟨_, rfl, _, rfl, a1, a2, xs, ys, rfl, .inl (.inr ⟨p1, ha1⟩), .inl (.inr ⟨p2, ha2⟩), fun D nD => lc_vals (walk_zip (n := ds.length) (by omega)) (fun i => V.bl (sameD (ds.getD i .none) (es.getD i .none))) (Same.refl H) nD (by omega) (fun H1 s1 => ⟨.inl (.inr ⟨p1, s1 _ _ ha1⟩), .inl (.inr ⟨p2, s1 _ _ ha2⟩)⟩) ?_ ?_⟩
        · rintro i x H1 H2 hi s1 ⟨t, y, z, rfl, nt, rfl, ey, ez⟩ Qc kc
          dsimp only at ey ez
          obtain ⟨d, hd, ry⟩ := rpL_get l1 ey
          obtain ⟨e, he, rz⟩ := rpL_get l2 ez
          obtain ⟨q1, q2⟩ := okL_get o1.2 (List.mem_of_getElem? hd)
          obtain ⟨q3, q4⟩ := okL_get o2.2 (List.mem_of_getElem? he)
          have ed : ds.getD i .none = d := by rw [List.getD_eq_getElem?_getD, hd]; rfl
          have ee : es.getD i .none = e := by rw [List.getD_eq_getElem?_getD, he]; rfl
          rw [ed, ee] at kc
          have s2 : Same H1 (upd H1 t (.tup [y, z])) := same_new nt
          refine ⟨t, _, rfl, SqT.of upd_same, rfl, _, _, rfl, _, _, rfl, rfl, rfl, ?_⟩
          exact ⟨_, rfl, _, rfl, y, z, d, e, rfl, ry.same (s1.trans s2), rz.same (s1.trans s2), q1, q3, by omega, docL_get c1 (List.mem_of_getElem? hd), docL_get c2 (List.mem_of_getElem? he), fun H3 s3 => kc H3 (s2.trans s3)⟩
        · intro H1 s1 hD
          refine ⟨D, _, rfl, SqL.of ?_, k H1 s1⟩
          rw [hD, List.map_map]
          rfl
      · have e1 : (!decide (V.int (xs.length : Int) = V.int (ys.length : Int))) = true := by
          have : ¬ (V.int (xs.length : Int) = V.int (ys.length : Int)) := fun z => hl (by
            injection z with z
            omega)
          rw [decide_eq_false this]
          rfl
        rw [e1]
        refine iT ?_
        exact no _ rfl (by simp [sameD, hl]) H (Same.refl H)
  | false =>
    refine iF ?_
    refine ⟨_, rfl, _, _, d2, _, _, rfl, .ty _, r2, kit_l d2, _, rfl, ?_⟩
    cases h2 : isL d2 with
    | true =>
      refine iT ?_
      refine ⟨_, rfl, _, _, d1, _, _, rfl, .ty _, r1, kit_l d1, _, rfl, ?_⟩
      rw [h1]
      exact no _ rfl (same_l (by rw [h1, h2]; decide)) H (Same.refl H)
    | false =>
      refine iF ?_
      refine ⟨_, rfl, _, _, d1, _, _, rfl, .ty _, r1, kit_m d1, _, rfl, ?_⟩
      cases m1 : isM d1 with
      | true =>
        refine iT (iT ?_)
        refine ⟨_, rfl, _, _, d1, _, _, rfl, .ty _, r1, kit_m d1, _, rfl, ?_⟩
        rw [m1]
        refine iF ?_
        refine ⟨_, rfl, _, _, d2, _, _, rfl, .ty _, r2, kit_m d2, _, rfl, ?_⟩
        cases m2 : isM d2 with
        | false => exact no _ rfl (same_m (by rw [m1, m2]; decide)) H (Same.refl H)
        | true =>
          refine iF ?_
          obtain ⟨ds, rfl⟩ := isM_dict m1
          obtain ⟨es, rfl⟩ := isM_dict m2
          obtain ⟨a1, p1, xs, rfl, ha1, l1⟩ := doc_dict r1 c1
          obtain ⟨a2, p2, ys, rfl, ha2, l2⟩ := doc_dict r2 c2
          simp only [okD, Bool.and_eq_true, decide_eq_true_eq] at o1 o2
          simp only [PyData.depth] at hdp
          rw [isDoc] at c1 c2
          have n1 := rpD_len l1
          have n2 := rpD_len l2
          refine ⟨_, rfl, a1, _, rfl, .inr ⟨xs, .inr ⟨p1, ha1⟩, rfl⟩, _, rfl, a2, _, rfl, .inr ⟨ys, .inr ⟨p2, ha2⟩, rfl⟩, rfl, _, rfl, ?_⟩
          by_cases hl : ds.length = es.length
          · have e1 : (!decide (V.int (xs.length : Int) = V.int (ys.length : Int))) = false := by
              rw [← n1, ← n2, hl]
              simp
            rw [e1]
            refine iF ?_
            have es1 : sameD (.dict ds) (.dict es) = (ds.map (sameOne es)).all id := by
              rw [← sameK_all]
              simp [sameD, hl]
            rw [es1] at k
            refine ⟨_, rfl, a1, p1, rfl, .inl ⟨xs, ha1, fun D nD => lc_vals walk_items (fun i => V.bl (sameOne es (ds.getD i (.none, .none)))) (Same.refl H) nD (by omega) (fun H1 s1 => s1 _ _ ha1) ?_ ?_⟩⟩
            · rintro i x H1 H2 hi s1 ⟨t, y, z, rfl, nt, rfl, ey, ez⟩ Qc kc
              dsimp only at ey ez
              cases hkv : xs[i]? with
              | none => rw [hkv] at ey; cases ey
              | some kv =>
                obtain ⟨ky, v⟩ := kv
                rw [hkv] at ey ez
                cases ey
                cases ez
                obtain ⟨d, hd, rx⟩ := rpD_get l1 hkv
                obtain ⟨q1, q2, q3⟩ := okK_get o1.2 (List.mem_of_getElem? hd)
                have ed : ds.getD i (.none, .none) = (kD ky, d) := by rw [List.getD_eq_getElem?_getD, hd]; rfl
                rw [ed] at kc
                obtain ⟨w1, w2⟩ := docK_get c1 (List.mem_of_getElem? hd)
                have s2 : Same H1 (upd H1 t (.tup [kV ky, v])) := same_new nt
                refine ⟨t, _, rfl, SqT.of upd_same, rfl, _, _, rfl, _, _, rfl, rfl, rfl, ?_⟩
                cases ky with
                | inl j => simp [kD, isNm] at w1
                | inr z =>
                  have hg : ∀ H3, Same H1 H3 → DGet H3 a2 (kV (.inr z)) (valV ys (.inr z)) := fun H3 s3 => .inl ⟨ys, .inr z, .inr ⟨p2, s3 _ _ (s1 _ _ ha2)⟩, rfl, rfl⟩
                  refine ⟨_, rfl, _, rfl, a2, _, rfl, hg _ s2, _, rfl, ?_⟩
                  cases hv : valV ys (.inr z) with
                  | none =>
                    have e2 := rpD_val_none l2 hv
                    have e3 : sameOne es (kD (.inr z), d) = false := by simp [sameOne, kD, e2]
                    rw [e3] at kc
                    exact kc _ s2
                  | some v2 =>
                    obtain ⟨e, e2, r2', mem⟩ := rpD_val l2 hv
                    have e3 : sameOne es (kD (.inr z), d) = sameD d e := by simp [sameOne, kD, e2]
                    rw [e3] at kc
                    obtain ⟨q4, q5, q6⟩ := okK_get o2.2 mem
                    have hg2 := hg _ s2
                    rw [hv] at hg2
                    exact ⟨_, rfl, _, rfl, _, rfl, a2, v2, rfl, hg2, v, v2, d, e, rfl, rx.same (s1.trans s2), r2'.same (s1.trans s2), q2, q5, by omega, w2, (docK_get c2 mem).2, fun H3 s3 => kc H3 (s2.trans s3)⟩
            · intro H1 s1 hD
              refine ⟨D, ds.map (sameOne es), rfl, SqL.of ?_, k H1 s1⟩
              rw [hD, ← n1, range_get (f := fun p : PyData × PyData => V.bl (sameOne es p)) (fun i x hx => by rw [List.getD_eq_getElem?_getD, hx]; rfl), List.map_map]
              rfl
          · have e1 : (!decide (V.int (xs.length : Int) = V.int (ys.length : Int))) = true := by
              have : ¬ (V.int (xs.length : Int) = V.int (ys.length : Int)) := fun z => hl (by
                injection z with z
                omega)
              rw [decide_eq_false this]
              rfl
            rw [e1]
            refine iT ?_
            exact no _ rfl (by simp [sameD, hl]) H (Same.refl H)
      | false =>
        refine iF ?_
        refine ⟨_, rfl, _, _, d2, _, _, rfl, .ty _, r2, kit_m d2, _, rfl, ?_⟩
        cases m2 : isM d2 with
        | true =>
          refine iT ?_
          refine ⟨_, rfl, _, _, d1, _, _, rfl, .ty _, r1, kit_m d1, _, rfl, ?_⟩
          rw [m1]
          exact no _ rfl (same_m (by rw [m1, m2]; decide)) H (Same.refl H)
        | false =>
          refine iF ?_
          refine ⟨_, rfl, _, _, d1, _, _, rfl, .ty _, r1, kit_b d1, _, rfl, _, _, d2, _, _, rfl, .ty _, r2, kit_b d2, rfl, _, rfl, ?_⟩
          have k0 := k H (Same.refl H)
          cases d1 with
          | list ds => cases h1
          | dict ds => cases m1
          | tuple ds => simp [isDoc] at c1
          | none => cases d2 with
            | list ds => cases h2
            | dict ds => cases m2
            | tuple ds => simp [isDoc] at c2
            | bool b => exact k0
            | _ =>
              simp only [Rp] at r1 r2
              subst r1 r2
              exact ⟨_, rfl, _, rfl, rfl, by simpa [sameD] using k0⟩
          | bool a => cases d2 with
            | list ds => cases h2
            | dict ds => cases m2
            | tuple ds => simp [isDoc] at c2
            | bool b =>
              simp only [Rp] at r1 r2
              subst r1 r2
              exact ⟨_, rfl, _, rfl, rfl, by simpa [sameD] using k0⟩
            | _ => exact k0
          | int a => cases d2 with
            | list ds => cases h2
            | dict ds => cases m2
            | tuple ds => simp [isDoc] at c2
            | bool b => exact k0
            | _ =>
              simp only [Rp] at r1 r2
              subst r1 r2
              exact ⟨_, rfl, _, rfl, rfl, by simpa [sameD] using k0⟩
          | str a => cases d2 with
            | list ds => cases h2
            | dict ds => cases m2
            | tuple ds => simp [isDoc] at c2
            | bool b => exact k0
            | _ =>
              simp only [Rp] at r1 r2
              subst r1 r2
              exact ⟨_, rfl, _, rfl, rfl, by simpa [sameD] using k0⟩
end
end K00
end
section
set_option Elab.async false
set_option linter.all false
set_option maxRecDepth 100000
set_option maxHeartbeats 4000000
set_option pp.maxSteps 2000
namespace K00
open PySem PySem.Spec PyProof.Rows L2 Tg
local macro_rules | `(tactic| walk_at "c") => `(tactic| first | assumption | trivial | omega | (constructor <;> omega) | decide | exact len_ok (Nat.le_of_ble_eq_true rfl))
local macro_rules | `(tactic| walk_at "sq") => `(tactic| first | exact SqL.of (by assumption) | exact SqL.of upd_same | assumption | exact SqT.of (by assumption) | exact SqT.of upd_same | exact .inl (SqL.of (by assumption)) | exact .inr (SqT.of (by assumption)))
local macro_rules | `(tactic| walk_at "r1") => `(tactic| first
  | refine ⟨_, rfl, ?_⟩
  | refine ⟨_, _, rfl, rfl, ?_⟩
  | refine .inl ⟨_, rfl, ?_⟩
  | refine .inr ⟨_, rfl, ?_⟩
  | (apply Exists.intro; apply Exists.intro; apply Exists.intro; apply Exists.intro; refine And.intro rfl (And.intro rfl (And.intro ?sq ?_)); (case sq => walk_at "sq"); refine And.intro rfl ?_)
  | (apply Exists.intro; apply Exists.intro; apply Exists.intro; apply Exists.intro; refine And.intro rfl (And.intro rfl (And.intro ?hp ?_)); (case hp => first | assumption | exact upd_same); refine And.intro rfl ?_)
  | (refine And.intro ?c ?_; (case c => walk_at "c")))
local macro_rules | `(tactic| walk_at "r") => `(tactic| repeat walk_at "r1")
section
variable {P : Program} {w : World} {K : PySem.W.Frag} {mg : Str → Option Value} {base : Heap}
theorem ok_areSame (T : Tx P K mg) {B : Nat} (hB : B ≤ 1000) : ∀ n : Nat, FnOk P w K mg base CX0 (n + 1) T.a_are_same T.fd_are_same ["one", "other"] (spSame B n)
  | 0 => ⟨fun vs H Q E h => by
      obtain ⟨_, _, _, _, _, _, _, _, _, z, _⟩ := h
      exact absurd z (Nat.not_lt_zero _), fun A outer s H args us vs Q E hr e0 hb r h => by
      obtain ⟨_, _, _, _, _, _, _, _, _, z, _⟩ := h
      exact absurd z (Nat.not_lt_zero _)⟩
  | n + 1 => same_step T hB (ok_areSame T hB n)
def spSm (C : Addr) (B n : Nat) : Sp := fun vs H Q E => ∃ (v1 v2 : V) (d1 d2 : PyData), vs = [v1, v2] ∧ Rp H d1 v1 ∧ Rp H d2 v2 ∧ okD B d1 = true ∧ okD B d2 = true ∧ d1.depth < n ∧ d2.depth < n ∧
  (isDoc d1 = true → isDoc d2 = true → ∀ H', Same H H' → Q (.bl (sameD d1 d2)) H') ∧
  (isDoc d1 = false → ∀ H' dd, Same H H' → H' dd = none → E (.ref C) (some dd) (upd H' dd (.xd [("value", v1)]))) ∧
  (isDoc d1 = true → isDoc d2 = false → ∀ H' dd, Same H H' → H' dd = none → E (.ref C) (some dd) (upd H' dd (.xd [("value", v2)])))
theorem ok_same (T : Tx P K mg) {B : Nat} (hB : B ≤ 1000) (n : Nat) : FnOk P w K mg base (L2.CX P w) (n + 4) T.a_same T.fd_same ["one", "other"] (spSm T.C_NoDocument B n) := by
  have G_check_document := ok_chk (w := w) (base := base) T hB n
  have G_are_same := ok_areSame (w := w) (base := base) T hB n
  refine T.F_same.okX sc_same (fun vs H Q E h => ?_) (fun cdv A outer s H vs Q E hr h => ?_)
  · obtain ⟨v1, v2, d1, d2, rfl, _⟩ := h
    rfl
  obtain ⟨v1, v2, d1, d2, rfl, r1, r2, o1, o2, p1, p2, k1, k2, k3⟩ := h
  refine ⟨_, (pss_cons (ps_expr (pe_call G_check_document (hr.mono (by first | decide | omega)) (by rfl) T.m_check_document T.F_check_document.kp T.b_check_document .nil (passes_call (takes_of rfl rfl rfl rfl) fun _ _ _ _ h => h) (pa_cons (pv 0) pa_nil)))
      (pss_cons (ps_expr (pe_call G_check_document (hr.mono (by first | decide | omega)) (by rfl) T.m_check_document T.F_check_document.kp T.b_check_document .nil (passes_call (takes_of rfl rfl rfl rfl) fun _ _ _ _ h => h) (pa_cons (pv 1) pa_nil)))
      (pss_one (ps_ret (pe_call G_are_same (hr.mono (by first | decide | omega)) (by rfl) T.m_are_same T.F_are_same.kp T.b_are_same .nil pass0 (pa_cons (pv 0) (pa_cons (pv 1) pa_nil))))))), ?_⟩
  exact ⟨_, rfl, v1, d1, rfl, r1, o1, p1, fun q1 H1 s1 => ⟨_, rfl, v2, d2, rfl, r2.same s1, o2, p2, fun q2 H2 s2 => ⟨_, rfl, _, rfl, v1, v2, d1, d2, rfl, r1.same (s1.trans s2), r2.same (s1.trans s2), o1, o2, p1, q1, q2, fun H3 s3 => k1 q1 q2 H3 (s1.trans (s2.trans s3))⟩,
    fun q2 H2 dd s2 nd => k3 q1 q2 H2 dd (s1.trans s2) nd⟩, k2⟩
end
end K00
end
section
set_option Elab.async false
set_option linter.all false
set_option maxRecDepth 100000
set_option maxHeartbeats 4000000
set_option pp.maxSteps 500
namespace K00
open PySem PySem.Spec PyProof.Rows L2 Tg
local macro_rules | `(tactic| walk_at "c") => `(tactic| first | assumption | trivial | omega | (constructor <;> omega) | decide | exact len_ok (Nat.le_of_ble_eq_true rfl))
local macro_rules | `(tactic| walk_at "sq") => `(tactic| first | exact SqL.of (by assumption) | exact SqL.of upd_same | assumption | exact SqT.of (by assumption) | exact SqT.of upd_same | exact .inl (SqL.of (by assumption)) | exact .inr (SqT.of (by assumption)))
local macro_rules | `(tactic| walk_at "r1") => `(tactic| first
  | refine ⟨_, rfl, ?_⟩
  | refine ⟨_, _, rfl, rfl, ?_⟩
  | refine .inl ⟨_, rfl, ?_⟩
  | refine .inr ⟨_, rfl, ?_⟩
  | (apply Exists.intro; apply Exists.intro; apply Exists.intro; apply Exists.intro; refine And.intro rfl (And.intro rfl (And.intro ?sq ?_)); (case sq => walk_at "sq"); refine And.intro rfl ?_)
  | (apply Exists.intro; apply Exists.intro; apply Exists.intro; apply Exists.intro; refine And.intro rfl (And.intro rfl (And.intro ?hp ?_)); (case hp => first | assumption | exact upd_same); refine And.intro rfl ?_)
  | (refine And.intro ?c ?_; (case c => walk_at "c")))
local macro_rules | `(tactic| walk_at "r") => `(tactic| repeat walk_at "r1")
theorem abc_low {c : Nat} : decide (c ∈ (Str.ofString "abcdefghijklmnopqrstuvwxyz").cps.toList) = low c := by
  have e : (Str.ofString "abcdefghijklmnopqrstuvwxyz").cps.toList = List.range' 97 26 := by decide +kernel
  rw [e]
  unfold low
  by_cases h1 : 97 ≤ c
  · by_cases h2 : c ≤ 122
    · rw [decide_eq_true h1, decide_eq_true h2, decide_eq_true (List.mem_range'_1.mpr ⟨h1, by omega⟩)]
      rfl
    · rw [decide_eq_false h2, Bool.and_false, decide_eq_false]
      intro m
      have := List.mem_range'_1.mp m
      omega
  · rw [decide_eq_false h1, Bool.false_and, decide_eq_false]
    intro m
    have := List.mem_range'_1.mp m
    omega
theorem docK_take : ∀ {kds : List (PyData × PyData)} {i : Nat} {k d : PyData}, kds[i]? = some (k, d) → isDocK (kds.take i) = true → isDocK (kds.take (i + 1)) = (isNm k && isDoc d) ∧ ((isNm k && isDoc d) = false → isDocK kds = false)
  | (k', e) :: ds, 0, k, d, h, _ => by
    cases h
    simp only [List.take_zero, List.take_succ_cons, isDocK, Bool.and_true]
    exact ⟨trivial, fun q => by rw [q, Bool.false_and]⟩
  | (k', e) :: ds, i + 1, k, d, h, t => by
    simp only [List.take_succ_cons, isDocK, Bool.and_eq_true] at t
    obtain ⟨a, b⟩ := docK_take (kds := ds) (i := i) (k := k) (d := d) (by simpa using h) t.2
    refine ⟨?_, fun q => ?_⟩
    · rw [List.take_succ_cons, isDocK, a, t.1.1, t.1.2]
      rfl
    · rw [isDocK, b q, Bool.and_false]
section
variable {P : Program} {w : World} {K : PySem.W.Frag} {mg : Str → Option Value} {base : Heap}
theorem one_step (T : Tx P K mg) {B n k : Nat} (hB : B ≤ 1000) (G__law_is_one : FnOk P w K mg base CX0 (k + 1) T.a__law_is_one T.fd__law_is_one ["_law_value"] (spDoc B n)) : FnOk P w K mg base CX0 (k + 2) T.a__law_is_one T.fd__law_is_one ["_law_value"] (spDoc B (n + 1)) := by
  refine T.F__law_is_one.ok sc__law_is_one (fun vs H Q E h => ?_) (fun cdv A outer s H vs Q E hr h => ?_)
  · obtain ⟨v, d, rfl, _⟩ := h
    rfl
  obtain ⟨v, d, rfl, rd, hok, hdp, k⟩ := h
  refine ⟨_, (pss_cons (ps_if (pt_val (pe_callB call_isD (by rfl) T.n_isinstance PyProof.Rows.Boot.«isinstance» (pa_cons (pv 0) (pa_cons (pe_bltn (v := .ty "list") (by rfl) T.n_list PyProof.Rows.Boot.«list» rfl) pa_nil)))) (pss_one (ps_ret (pe_callB (cr_all rfl) (by rfl) T.n_all PyProof.Rows.Boot.«all» (pa_cons (pe_lc (own := [("_law_part", 2)]) (g := gName 2) (tt := tYes) (by rfl) sc__law_is_one.nd (pi_list (pv 0)) (blkOk_by (own := [("_law_part", 2)]) (N := ["_law_value", "_law_field", "_law_part", "_law_sign"]) (sc := defScope s__law_is_one) (by decide +kernel)) (fun _ _ _ _ _ => (pg_name (i := 2) sc__law_is_one.nd rfl (Or.inl rfl))) (fun _ _ _ _ _ => pts_nil) (fun _ _ _ _ _ => (pe_call G__law_is_one (hr.mono (by first | decide | omega)) (by rfl) T.m__law_is_one T.F__law_is_one.kp T.b__law_is_one .nil pass0 (pa_cons (pv 2) pa_nil)))) pa_nil)))) pss_nil)
      (pss_cons (ps_if (pt_val (pe_callB call_isD (by rfl) T.n_isinstance PyProof.Rows.Boot.«isinstance» (pa_cons (pv 0) (pa_cons (pe_bltn (v := .ty "dict") (by rfl) T.n_dict PyProof.Rows.Boot.«dict» rfl) pa_nil)))) (pss_cons (ps_for PassesOwn.never rfl (pi_itemsN (pv 0)) (pg_tup rfl (pgs_cons (pg_name (i := 1) sc__law_is_one.nd rfl (Or.inl rfl)) (pgs_cons (pg_name (i := 2) sc__law_is_one.nd rfl (Or.inl rfl)) pgs_nil))) (pss_cons (ps_if (PW.pt (pw_or (pt_not (pt_val (pe_callB call_isD (by rfl) T.n_isinstance PyProof.Rows.Boot.«isinstance» (pa_cons (pv 1) (pa_cons (pe_bltn (v := .ty "str") (by rfl) T.n_str PyProof.Rows.Boot.«str» rfl) pa_nil))))) (pw_or (pt_not (pt_chain op_le op_le pe_int (pe_callB call_len (by rfl) T.n_len PyProof.Rows.Boot.«len» (pa_cons (pv 1) pa_nil)) pe_int)) (pw_or1 (pt_not (pt_val (pe_call G__law_is_one (hr.mono (by first | decide | omega)) (by rfl) T.m__law_is_one T.F__law_is_one.kp T.b__law_is_one .nil pass0 (pa_cons (pv 2) pa_nil)))))))) (pss_one (ps_ret pe_bl)) pss_nil)
      (pss_one (ps_if (pt_not (pt_val (pe_callB (cr_all rfl) (by rfl) T.n_all PyProof.Rows.Boot.«all» (pa_cons (pe_lc (own := [("_law_sign", 3)]) (g := gName 3) (tt := tYes) (by rfl) sc__law_is_one.nd (pi_str (pv 1)) (blkOk_by (own := [("_law_sign", 3)]) (N := ["_law_value", "_law_field", "_law_part", "_law_sign"]) (sc := defScope s__law_is_one) (by decide +kernel)) (fun _ _ _ _ _ => (pg_name (i := 3) sc__law_is_one.nd rfl (Or.inl rfl))) (fun _ _ _ _ _ => pts_nil) (fun _ _ _ _ _ => (pe_cmpR op_in_sign (pv 3) pe_str (by rfl)))) pa_nil)))) (pss_one (ps_ret pe_bl)) pss_nil))))
      (pss_one (ps_ret pe_bl))) pss_nil)
      (pss_one (ps_ret (pe_or (pe_cmpR op_isN (pv 0) pe_non (nomark _)) (pe_one (pe_callB call_isDT (by rfl) T.n_isinstance PyProof.Rows.Boot.«isinstance» (pa_cons (pv 0) (pa_cons (pe_tup (pa_cons (pe_bltn (v := .ty "bool") (by rfl) T.n_bool PyProof.Rows.Boot.«bool» rfl) (pa_cons (pe_bltn (v := .ty "int") (by rfl) T.n_int PyProof.Rows.Boot.«int» rfl) (pa_cons (pe_bltn (v := .ty "str") (by rfl) T.n_str PyProof.Rows.Boot.«str» rfl) pa_nil)))) pa_nil))))))))), ?_⟩
  have rd0 := rd
  cases d with
  | list ds =>
    simp only [Rp] at rd
    obtain ⟨a, o, xs, rfl, ha, rl⟩ := rd
    simp only [okD, Bool.and_eq_true, decide_eq_true_eq] at hok
    simp only [PyData.depth] at hdp
    have hlen := rpL_len rl
    refine ⟨_, rfl, _, _, _, _, true, rfl, .ty _, rd0, rfl, _, rfl, ?_⟩
    refine iT ?_
    refine ⟨_, rfl, a, rfl, ⟨xs, .inl (.inr ⟨o, ha⟩)⟩, fun D nD => lc_vals walk_list (fun i => V.bl (isDoc (ds.getD i .none))) (Same.refl H) nD (by omega) (fun H1 s1 => .inl (.inr ⟨o, s1 _ _ ha⟩)) ?_ ?_⟩
    · rintro i x H1 H2 hi s1 ⟨rfl, hx⟩ Qc kc
      obtain ⟨d, hd, rx⟩ := rpL_get rl hx
      obtain ⟨o1, o2⟩ := okL_get hok.2 (List.mem_of_getElem? hd)
      have ed : ds.getD i .none = d := by rw [List.getD_eq_getElem?_getD, hd]; rfl
      rw [ed] at kc
      exact ⟨rfl, _, rfl, x, d, rfl, rx.same s1, o1, by omega, fun H3 s3 => kc H3 s3⟩
    · intro H1 s1 hD
      refine ⟨D, ds.map isDoc, rfl, SqL.of ?_, ?_⟩
      · rw [hD, ← hlen, range_get (f := fun d => V.bl (isDoc d)) (fun i x hx => by rw [List.getD_eq_getElem?_getD, hx]; rfl), List.map_map]
        rfl
      · have e : isDoc (.list ds) = (ds.map isDoc).all id := by rw [← docL_all, isDoc]
        rw [← e]
        exact k H1 s1
  | dict kds =>
    simp only [okD, Bool.and_eq_true, decide_eq_true_eq] at hok
    simp only [PyData.depth] at hdp
    refine ⟨_, rfl, _, _, _, _, false, rfl, .ty _, rd0, rfl, _, rfl, iF ⟨_, rfl, _, _, _, _, true, rfl, .ty _, rd0, rfl, _, rfl, iT ?_⟩⟩
    rw [isDoc] at k
    simp only [Rp] at rd
    rcases rd with ⟨a, o, kvs, rfl, ha, rl⟩ | ⟨rfl, a, o, rfl, ha, no, sm⟩
    · have hlen := rpD_len rl
      refine ⟨_, rfl, a, o, rfl, .inl ⟨kvs, ha, for_it walk_items (fun i σ H1 => ∃ x1 x2, σ = [some (.ref a), x1, x2, none] ∧ Same H H1 ∧ isDocK (kds.take i) = true) ⟨none, none, rfl, Same.refl H, rfl⟩ (fun i σ H1 _ ⟨_, _, _, s1, _⟩ => s1 _ _ ha) ?_ ?_⟩⟩
      · rintro i x σ H1 H2 hi ⟨x1, x2, rfl, s1, ht⟩ ⟨t, y, z, rfl, nt, rfl, ey, ez⟩
        dsimp only at ey ez
        cases hkv : kvs[i]? with
        | none => rw [hkv] at ey; cases ey
        | some kv =>
          obtain ⟨ky, v⟩ := kv
          rw [hkv] at ey ez
          cases ey
          cases ez
          obtain ⟨d, hd, rx⟩ := rpD_get rl hkv
          obtain ⟨o1, o2, o3⟩ := okK_get hok.2 (List.mem_of_getElem? hd)
          obtain ⟨t1, t2⟩ := docK_take hd ht
          have s2 : Same H1 (upd H1 t (.tup [kV ky, v])) := same_new nt
          have no : (isNm (kD ky) && isDoc d) = false → ∀ H', Same H1 H' → Q (.bl false) H' := fun q H' s' => by
            rw [t2 q] at k
            exact k H' (s1.trans s')
          refine ⟨t, _, rfl, SqT.of upd_same, rfl, _, _, rfl, _, _, rfl, rfl, ?_⟩
          cases ky with
          | inl j => exact ⟨_, rfl, _, _, .int j, _, false, rfl, .ty _, by simp only [Rp]; rfl, rfl, _, rfl, no rfl _ s2⟩
          | inr z =>
            refine ⟨_, rfl, _, _, .str z, _, true, rfl, .ty _, by simp only [Rp]; rfl, rfl, _, rfl, iF ?_⟩
            have zl : z.length ≤ 100 := by
              simp only [kD, okD, decide_eq_true_eq] at o1
              exact o1.1
            have hz : z.length ≤ sizeLine := by
              rw [sizeLine_eq]
              omega
            refine ⟨_, rfl, _, _, rfl, ⟨hz, rfl⟩, _, _, rfl, rfl, _, rfl, ?_⟩
            by_cases g1 : ¬ 1 ≤ z.length
            · have e1 : decide ((1 : Int) ≤ (z.length : Int)) = false := decide_eq_false (by omega)
              rw [e1]
              refine ⟨false, rfl, no ?_ _ s2⟩
              simp [kD, isNm, g1]
            have g1 := Classical.not_not.mp g1
            have e1 : decide ((1 : Int) ≤ (z.length : Int)) = true := decide_eq_true (by omega)
            rw [e1]
            refine ⟨_, _, rfl, rfl, _, rfl, ?_⟩
            by_cases g8 : ¬ z.length ≤ 8
            · have e3 : decide ((z.length : Int) ≤ (8 : Int)) = false := decide_eq_false (by omega)
              rw [e3]
              refine no ?_ _ s2
              simp [kD, isNm, g8]
            have g8 := Classical.not_not.mp g8
            have e3 : decide ((z.length : Int) ≤ (8 : Int)) = true := decide_eq_true (by omega)
            rw [e3]
            refine iF ?_
            refine ⟨_, rfl, v, d, rfl, rx.same (s1.trans s2), o2, by omega, fun H3 s3 => ⟨_, rfl, ?_⟩⟩
            cases hq : isDoc d with
            | false => exact no (by rw [hq, Bool.and_false]) _ (s2.trans s3)
            | true =>
              refine iF ?_
              have nm : isNm (kD (.inr z)) = (z.cps.toList.map low).all id := by
                show (decide (1 ≤ z.length) && decide (z.length ≤ 8) && _) = _
                rw [decide_eq_true g1, decide_eq_true g8, List.all_map]
                rfl
              have hzs : z.cps.size = z.cps.toList.length := (Array.length_toList).symm
              refine ⟨_, rfl, z, rfl, fun D nD => lc_vals walk_str (fun i => V.bl (low (z.cps.toList.getD i 0))) (Same.refl H3) nD (by show z.length ≤ 1000; omega) (fun _ _ => trivial) ?_ ?_⟩
              · rintro j y H6 H7 hj s6 ⟨rfl, c, hc, rfl⟩ Qc kc
                have hc' : z.cps.toList[j]? = some c := by rw [Array.getElem?_toList]; exact hc
                have ed : z.cps.toList.getD j 0 = c := by rw [List.getD_eq_getElem?_getD, hc']; rfl
                rw [ed, ← abc_low] at kc
                exact ⟨rfl, _, rfl, c, _, rfl, rfl, kc _ (Same.refl _)⟩
              · intro H6 s6 hD
                rw [hzs, range_get (f := fun c => V.bl (low c)) (fun i x hx => by rw [List.getD_eq_getElem?_getD, hx]; rfl)] at hD
                refine ⟨D, z.cps.toList.map low, rfl, SqL.of (by rw [hD, List.map_map]; rfl), _, rfl, ?_⟩
                cases ha2 : (z.cps.toList.map low).all id with
                | false => exact no (by rw [nm, ha2, Bool.false_and]) _ (s2.trans (s3.trans s6))
                | true =>
                  refine iF ?_
                  exact ⟨_, _, rfl, s1.trans (s2.trans (s3.trans s6)), by rw [t1, nm, ha2, hq]; rfl⟩
      · rintro σ H1 ⟨x1, x2, rfl, s1, ht⟩
        rw [← hlen, List.take_length] at ht
        rw [ht] at k
        exact k H1 s1
    · have k' : ∀ H', Same H H' → Q (.bl false) H' := fun H' s' => by
        have q := k H' s'
        simpa [isDocK, isNm] using q
      refine ⟨_, rfl, a, o, rfl, .inr ⟨ha, no, sm, for_it walk_itemsN (fun i σ H1 => i = 0 ∧ ∃ x1 x2, σ = [some (.ref a), x1, x2, none] ∧ Same H H1) ⟨rfl, none, none, rfl, Same.refl H⟩ (fun i σ H1 _ ⟨_, _, _, _, s1⟩ => ⟨s1 _ _ ha, no, sm⟩) ?_ ?_⟩⟩
      · rintro i x σ H1 H2 hi ⟨_, x1, x2, rfl, s1⟩ ⟨t, rfl, nt, rfl⟩
        have s2 : Same H1 (upd H1 t (.tup [.non, .int 1])) := same_new nt
        refine ⟨t, _, rfl, SqT.of upd_same, rfl, _, _, rfl, _, _, rfl, rfl, ?_⟩
        exact ⟨_, rfl, _, _, .none, _, false, rfl, .ty _, by simp only [Rp], rfl, _, rfl, k' _ (s1.trans s2)⟩
      · rintro σ H1 ⟨z, _⟩
        cases z
  | none =>
    simp only [Rp] at rd
    subst rd
    refine ⟨_, rfl, _, _, _, _, false, rfl, .ty _, rd0, rfl, _, rfl, iF ⟨_, rfl, _, _, _, _, false, rfl, .ty _, rd0, rfl, _, rfl, iF ⟨_, rfl, rfl, true, rfl, k H (Same.refl H)⟩⟩⟩
  | tuple ds =>
    simp only [Rp] at rd
    obtain ⟨a, xs, rfl, ha, rl⟩ := rd
    refine ⟨_, rfl, _, _, _, _, false, rfl, .ty _, rd0, rfl, _, rfl, iF ⟨_, rfl, _, _, _, _, false, rfl, .ty _, rd0, rfl, _, rfl, iF ⟨_, rfl, rfl, false, rfl, ?_⟩⟩⟩
    refine ⟨_, rfl, len_ok (by show 3 ≤ 1000; decide), fun p np => ?_⟩
    exact ⟨_, p, _, _, [.type "bool", .type "int", .type "str"], false, rfl, upd_same, .cons (.ty _) (.cons (.ty _) (.cons (.ty _) .nil)), rd0.same (same_new np), rfl, k _ (same_new np)⟩
  | bool b =>
    simp only [Rp] at rd
    subst rd
    refine ⟨_, rfl, _, _, _, _, false, rfl, .ty _, rd0, rfl, _, rfl, iF ⟨_, rfl, _, _, _, _, false, rfl, .ty _, rd0, rfl, _, rfl, iF ⟨_, rfl, rfl, false, rfl, ?_⟩⟩⟩
    refine ⟨_, rfl, len_ok (by show 3 ≤ 1000; decide), fun p np => ?_⟩
    exact ⟨_, p, _, _, [.type "bool", .type "int", .type "str"], true, rfl, upd_same, .cons (.ty _) (.cons (.ty _) (.cons (.ty _) .nil)), rd0.same (same_new np), rfl, k _ (same_new np)⟩
  | int i =>
    simp only [Rp] at rd
    subst rd
    refine ⟨_, rfl, _, _, _, _, false, rfl, .ty _, rd0, rfl, _, rfl, iF ⟨_, rfl, _, _, _, _, false, rfl, .ty _, rd0, rfl, _, rfl, iF ⟨_, rfl, rfl, false, rfl, ?_⟩⟩⟩
    refine ⟨_, rfl, len_ok (by show 3 ≤ 1000; decide), fun p np => ?_⟩
    exact ⟨_, p, _, _, [.type "bool", .type "int", .type "str"], true, rfl, upd_same, .cons (.ty _) (.cons (.ty _) (.cons (.ty _) .nil)), rd0.same (same_new np), rfl, k _ (same_new np)⟩
  | str z =>
    simp only [Rp] at rd
    subst rd
    refine ⟨_, rfl, _, _, _, _, false, rfl, .ty _, rd0, rfl, _, rfl, iF ⟨_, rfl, _, _, _, _, false, rfl, .ty _, rd0, rfl, _, rfl, iF ⟨_, rfl, rfl, false, rfl, ?_⟩⟩⟩
    refine ⟨_, rfl, len_ok (by show 3 ≤ 1000; decide), fun p np => ?_⟩
    exact ⟨_, p, _, _, [.type "bool", .type "int", .type "str"], true, rfl, upd_same, .cons (.ty _) (.cons (.ty _) (.cons (.ty _) .nil)), rd0.same (same_new np), rfl, k _ (same_new np)⟩
theorem ok_one (T : Tx P K mg) {B : Nat} (hB : B ≤ 1000) : ∀ n : Nat, FnOk P w K mg base CX0 (n + 1) T.a__law_is_one T.fd__law_is_one ["_law_value"] (spDoc B n)
  | 0 => ⟨fun vs H Q E h => by
      obtain ⟨_, _, _, _, _, z, _⟩ := h
      exact absurd z (Nat.not_lt_zero _), fun A outer s H args us vs Q E hr e0 hb r h => by
      obtain ⟨_, _, _, _, _, z, _⟩ := h
      exact absurd z (Nat.not_lt_zero _)⟩
  | n + 1 => one_step T hB (ok_one T hB n)
end
end K00
end
section
set_option Elab.async false
set_option linter.all false
set_option maxRecDepth 100000
set_option maxHeartbeats 4000000
set_option pp.maxSteps 500
namespace K00
open PySem PySem.Spec PyProof.Rows L2 Tg
local macro_rules | `(tactic| walk_at "c") => `(tactic| first | assumption | trivial | omega | (constructor <;> omega) | decide | exact len_ok (Nat.le_of_ble_eq_true rfl))
local macro_rules | `(tactic| walk_at "sq") => `(tactic| first | exact SqL.of (by assumption) | exact SqL.of upd_same | assumption | exact SqT.of (by assumption) | exact SqT.of upd_same | exact .inl (SqL.of (by assumption)) | exact .inr (SqT.of (by assumption)))
local macro_rules | `(tactic| walk_at "r1") => `(tactic| first
  | refine ⟨_, rfl, ?_⟩
  | refine ⟨_, _, rfl, rfl, ?_⟩
  | refine .inl ⟨_, rfl, ?_⟩
  | refine .inr ⟨_, rfl, ?_⟩
  | (apply Exists.intro; apply Exists.intro; apply Exists.intro; apply Exists.intro; refine And.intro rfl (And.intro rfl (And.intro ?sq ?_)); (case sq => walk_at "sq"); refine And.intro rfl ?_)
  | (apply Exists.intro; apply Exists.intro; apply Exists.intro; apply Exists.intro; refine And.intro rfl (And.intro rfl (And.intro ?hp ?_)); (case hp => first | assumption | exact upd_same); refine And.intro rfl ?_)
  | (refine And.intro ?c ?_; (case c => walk_at "c")))
local macro_rules | `(tactic| walk_at "r") => `(tactic| repeat walk_at "r1")
theorem perm_sum {α : Type} {f : α → Int} {xs ys : List α} (p : xs.Perm ys) : (xs.map f).sum = (ys.map f).sum := by
  induction p with
  | nil => rfl
  | cons x _ ih => simp [ih]
  | swap x y l => simp only [List.map_cons, List.sum_cons]; omega
  | trans _ _ a b => exact a.trans b
/-- the texts that are keys -/
def keyS : List (PyData × PyData) → List Str
  | [] => []
  | (.str x, _) :: r => x :: keyS r
  | _ :: r => keyS r
theorem nd_look : ∀ {kds : List (PyData × PyData)} {x : Str} {d : PyData}, ndK kds = true → (PyData.str x, d) ∈ kds → lookS x kds = some d
  | (k, e) :: r, x, d, h, m => by
    cases k with
    | str y =>
      simp only [ndK, Bool.and_eq_true, Option.isNone_iff_eq_none] at h
      rcases List.mem_cons.mp m with m | m
      · cases m
        simp [lookS]
      · have ih := nd_look h.2 m
        have ny : y ≠ x := fun q => by
          rw [q, ih] at h
          cases h.1
        simpa [lookS, ny] using ih
    | _ =>
      rcases List.mem_cons.mp m with m | m
      · cases m
      · exact nd_look (kds := r) h m
theorem doc_keys : ∀ {H : Hp} {kds : List (PyData × PyData)} {kvs : List (Key × V)}, RpD H kds kvs → isDocK kds = true → kvs.map (·.1) = (keyS kds).map Sum.inr
  | H, [], kvs, r, _ => by
    simp only [RpD] at r
    subst r
    rfl
  | H, (k, d) :: kds, kvs, r, h => by
    simp only [RpD] at r
    obtain ⟨ky, x, l, rfl, rfl, r1, r2⟩ := r
    simp only [isDocK, Bool.and_eq_true] at h
    cases ky with
    | inl i => simp [kD, isNm] at h
    | inr z =>
      simp only [kD, keyS, List.map_cons]
      rw [doc_keys r2 h.2]
theorem keyS_sum {f : PyData → Int} : ∀ {kds : List (PyData × PyData)}, isDocK kds = true → ∀ {g : Str → Int}, (∀ x d, (PyData.str x, d) ∈ kds → g x = f d) → ((keyS kds).map g).sum = (kds.map fun p => f p.2).sum
  | [], _, g, _ => rfl
  | (k, d) :: r, h, g, hg => by
    simp only [isDocK, Bool.and_eq_true] at h
    cases k with
    | str x =>
      simp only [keyS, List.map_cons, List.sum_cons]
      rw [hg x d List.mem_cons_self, keyS_sum h.2 fun y e m => hg y e (List.mem_cons_of_mem _ m)]
    | _ => simp [isNm] at h
theorem sq_same {K : PySem.W.Frag} {l : Addr} {H H' : Hp} {xs : List V} (b : Same H H') (h : SqL K H l xs) : SqL K H' l xs := by
  rcases h with (h | ⟨o, h⟩) | h
  · exact .inl (.inl (b _ _ h))
  · exact .inl (.inr ⟨o, b _ _ h⟩)
  · exact .inr h
theorem rpL_map {α : Type} {H : Hp} {f : α → PyData} {g : α → V} : ∀ {ys : List α}, (∀ y ∈ ys, Rp H (f y) (g y)) → RpL H (ys.map f) (ys.map g)
  | [], _ => RpL.nil
  | y :: ys, h => RpL.cons (h y List.mem_cons_self) (rpL_map fun z hz => h z (List.mem_cons_of_mem _ hz))
theorem keyS_look : ∀ {kds : List (PyData × PyData)} {y : Str}, y ∈ keyS kds → isDocK kds = true → lookS y kds ≠ none
  | (k, d) :: r, y, m, h => by
    simp only [isDocK, Bool.and_eq_true] at h
    cases k with
    | str x =>
      by_cases q : x = y
      · simp [lookS, q]
      · have m' : y ∈ keyS r := by
          simp only [keyS, List.mem_cons] at m
          rcases m with m | m
          · exact absurd m.symm q
          · exact m
        simpa [lookS, q] using keyS_look m' h.2
    | _ => simp [isNm] at h
section
variable {P : Program} {w : World} {K : PySem.W.Frag} {mg : Str → Option Value} {base : Heap}
theorem lparts_step (T : Tx P K mg) {B n k : Nat} (hB : B ≤ 50) (G__law_parts : FnOk P w K mg base CX0 (k + 1) T.a__law_parts T.fd__law_parts ["_law_document"] (spParts B n)) : FnOk P w K mg base CX0 (k + 2) T.a__law_parts T.fd__law_parts ["_law_document"] (spParts B (n + 1)) := by
  refine T.F__law_parts.ok sc__law_parts (fun vs H Q E h => ?_) (fun cdv A outer s H vs Q E hr h => ?_)
  · obtain ⟨v, d, rfl, _⟩ := h
    rfl
  obtain ⟨v, d, rfl, rd, hok, hdp, hdoc, k⟩ := h
  refine ⟨_, (pss_cons (ps_set (i := 1) sc__law_parts.nd rfl (Or.inl rfl) (pe_lst pa_nil))
      (pss_cons (ps_if (pt_val (pe_callB call_isD (by rfl) T.n_isinstance PyProof.Rows.Boot.«isinstance» (pa_cons (pv 0) (pa_cons (pe_bltn (v := .ty "list") (by rfl) T.n_list PyProof.Rows.Boot.«list» rfl) pa_nil)))) (pss_one (ps_set (i := 1) sc__law_parts.nd rfl (Or.inl rfl) (pv 0))) pss_nil)
      (pss_cons (ps_if (pt_val (pe_callB call_isD (by rfl) T.n_isinstance PyProof.Rows.Boot.«isinstance» (pa_cons (pv 0) (pa_cons (pe_bltn (v := .ty "dict") (by rfl) T.n_dict PyProof.Rows.Boot.«dict» rfl) pa_nil)))) (pss_one (ps_setLc (i := 1) (own := [("_law_field", 2)]) (g := gName 2) (tt := tYes) (by rfl) sc__law_parts.nd rfl rfl (sw_true rfl rfl rfl (by decide +kernel)) (pi_list (pe_callB (call_sortedD rfl) (by rfl) T.n_sorted PyProof.Rows.Boot.«sorted» (pa_cons (pv 0) pa_nil))) (blkOk_by (own := [("_law_field", 2)]) (N := ["_law_document", "_law_some", "_law_field", "_law_part"]) (sc := defScope s__law_parts) (by decide +kernel)) (fun _ _ _ _ _ => (pg_name (i := 2) sc__law_parts.nd rfl (Or.inl rfl))) (fun _ _ _ _ _ => pts_nil) (fun _ _ _ _ _ => (pe_dget (hu_of hr) (pv 0) (pv 2) (fun _ _ => rfl))))) pss_nil)
      (pss_one (ps_ret (pe_op op_add pe_int (pe_callB (cr_sum rfl) (by rfl) T.n_sum PyProof.Rows.Boot.«sum» (pa_cons (pe_lc (own := [("_law_part", 3)]) (g := gName 3) (tt := tYes) (by rfl) sc__law_parts.nd (pi_list (pv 1)) (blkOk_by (own := [("_law_part", 3)]) (N := ["_law_document", "_law_some", "_law_field", "_law_part"]) (sc := defScope s__law_parts) (by decide +kernel)) (fun _ _ _ _ _ => (pg_name (i := 3) sc__law_parts.nd rfl (Or.inl rfl))) (fun _ _ _ _ _ => pts_nil) (fun _ _ _ _ _ => (pe_call G__law_parts (hr.mono (by first | decide | omega)) (by rfl) T.m__law_parts T.F__law_parts.kp T.b__law_parts .nil pass0 (pa_cons (pv 3) pa_nil)))) pa_nil)))))))), ?_⟩
  have rd0 := rd
  refine ⟨len_ok (Nat.zero_le _), fun l nl => ?_⟩
  have sl : Same H (upd H l (.lst [])) := same_new nl
  have hl : upd H l (.lst []) l = some (.lst []) := upd_same
  generalize upd H l (.lst []) = H1 at sl hl ⊢
  have rd1 := rd0.same sl
  cases d with
  | tuple ds => simp [isDoc] at hdoc
  | list ds =>
    simp only [Rp] at rd
    obtain ⟨a, o, xs, rfl, ha, rl⟩ := rd
    simp only [okD, Bool.and_eq_true, decide_eq_true_eq] at hok
    simp only [PyData.depth] at hdp
    have hdoc2 := hdoc
    rw [isDoc] at hdoc2
    have hlen := rpL_len rl
    have rl1 := rl.same sl
    have mem : ∀ d ∈ ds, okD B d = true ∧ d.depth < n ∧ isDoc d = true := fun d m => ⟨(okL_get hok.2 m).1, by have := (okL_get hok.2 m).2; omega, docL_get hdoc2 m⟩
    have tot : (1 : Int) + (ds.map parts).sum = parts (.list ds) := by rw [parts, partsL_sum]
    have hsq : SqL K H1 a xs := .inl (.inr ⟨o, sl _ _ ha⟩)
    refine ⟨_, rfl, _, _, _, _, true, rfl, .ty _, rd1, rfl, _, rfl, iT ?_⟩
    refine ⟨_, rfl, _, rfl, _, _, _, _, false, rfl, .ty _, rd1, rfl, _, rfl, iF ?_⟩
    refine ⟨_, rfl, a, rfl, ⟨_, hsq⟩, fun D nD => lc_vals (walk_list (xs := xs)) (fun i => V.int (parts (ds.getD i .none))) (Same.refl H1) nD (by omega) (fun H8 s8 => sq_same s8 (hsq)) ?_ ?_⟩
    · rintro i x H8 H9 hi s8 ⟨rfl, hx⟩ Qc kc
      obtain ⟨d, hd, rx⟩ := rpL_get rl1 hx
      obtain ⟨q1, q2, q3⟩ := mem d (List.mem_of_getElem? hd)
      have ed : ds.getD i .none = d := by rw [List.getD_eq_getElem?_getD, hd]; rfl
      rw [ed] at kc
      exact ⟨rfl, _, rfl, x, d, rfl, rx.same s8, q1, q2, q3, fun H3 s3 => kc H3 s3⟩
    · intro H8 s8 hD
      refine ⟨D, ds.map parts, rfl, SqL.of ?_, _, _, rfl, rfl, ?_⟩
      · rw [hD, ← hlen, range_get (f := fun d => V.int (parts d)) (fun i x hx => by rw [List.getD_eq_getElem?_getD, hx]; rfl), List.map_map]
        rfl
      · show Q (V.int (1 + (ds.map parts).sum)) H8
        rw [tot]
        exact k H8 (sl.trans s8)
  | dict kds =>
    obtain ⟨a, o, kvs, rfl, ha, rl⟩ := doc_dict rd hdoc
    simp only [okD, Bool.and_eq_true, decide_eq_true_eq] at hok
    simp only [PyData.depth] at hdp
    have hdoc2 := hdoc
    rw [isDoc] at hdoc2
    have nlen := rpD_len rl
    have klen : (keyS kds).length = kvs.length := by
      have q := congrArg List.length (doc_keys rl hdoc2)
      simpa using q.symm
    refine ⟨_, rfl, _, _, _, _, false, rfl, .ty _, rd1, rfl, _, rfl, iF ⟨_, rfl, _, _, _, _, true, rfl, .ty _, rd1, rfl, _, rfl, iT ?_⟩⟩
    refine ⟨_, rfl, a, kvs, keyS kds, rfl, .inr ⟨o, sl _ _ ha⟩, doc_keys rl hdoc2, by omega, fun ys p pm srt np => ?_⟩
    have yk : ∀ y ∈ ys, ∃ d v, (PyData.str y, d) ∈ kds ∧ lookS y kds = some d ∧ valV kvs (.inr y) = some v ∧ Rp H1 d v := fun y hy => by
      have m1 := pm.mem_iff.mp hy
      cases hv : valV kvs (.inr y) with
      | none => exact absurd (keyS_look m1 hdoc2) (by rw [rpD_val_none rl hv]; simp)
      | some v =>
        obtain ⟨e, e1, e2, e3⟩ := rpD_val rl hv
        exact ⟨e, v, e3, e1, rfl, e2.same sl⟩
    have ylen : ys.length = kds.length := by rw [pm.length_eq]; omega
    have sp : Same H1 (upd H1 p (.lst (ys.map V.str))) := same_new np
    refine ⟨p, rfl, ⟨_, SqL.of upd_same⟩, fun D nD => lc_vals (walk_list (xs := ys.map V.str)) (fun i => (valV kvs (.inr (ys.getD i Str.empty))).getD .non) (Same.refl _) nD (by rw [List.length_map]; omega) (fun H8 s8 => SqL.of (s8 _ _ upd_same)) ?_ ?_⟩
    · rintro i x H8 H9 hi s8 ⟨rfl, hx⟩ Qc kc
      rw [List.getElem?_map] at hx
      cases hy : ys[i]? with
      | none => rw [hy] at hx; cases hx
      | some y =>
        rw [hy] at hx
        cases hx
        have ed : ys.getD i Str.empty = y := by rw [List.getD_eq_getElem?_getD, hy]; rfl
        rw [ed] at kc
        obtain ⟨d, v, _, _, hv, _⟩ := yk y (List.mem_of_getElem? hy)
        rw [hv] at kc
        have hg : DGet H9 a (kV (.inr y)) (some v) := .inl ⟨kvs, .inr y, .inr ⟨o, s8 _ _ (sp _ _ (sl _ _ ha))⟩, rfl, hv.symm⟩
        exact ⟨rfl, _, rfl, _, rfl, a, v, rfl, hg, kc _ (Same.refl _)⟩
    · intro H7 s7 hD
      rw [List.length_map, range_get (f := fun y => (valV kvs (.inr y)).getD .non) (fun i x hx => by rw [List.getD_eq_getElem?_getD, hx]; rfl)] at hD
      have rls := rpL_map (H := H7) (f := fun y => (lookS y kds).getD .none) (g := fun y => (valV kvs (.inr y)).getD .non) (ys := ys) fun y hy => by
        obtain ⟨d, v, _, h2, h3, h4⟩ := yk y hy
        rw [h2, h3]
        exact h4.same (sp.trans s7)
      have mem : ∀ d ∈ ys.map (fun y => (lookS y kds).getD .none), okD B d = true ∧ d.depth < n ∧ isDoc d = true := fun d m => by
        obtain ⟨y, hy, rfl⟩ := List.mem_map.mp m
        obtain ⟨d, v, h1, h2, _, _⟩ := yk y hy
        rw [h2]
        obtain ⟨q1, q2, q3⟩ := okK_get hok.2 h1
        exact ⟨q2, by show d.depth < n; omega, (docK_get hdoc2 h1).2⟩
      have tot : (1 : Int) + ((ys.map (fun y => (lookS y kds).getD .none)).map parts).sum = parts (.dict kds) := by
        rw [parts, partsK_sum, List.map_map, perm_sum pm, keyS_sum (f := parts) hdoc2]
        intro x d m
        show parts ((lookS x kds).getD .none) = parts d
        rw [nd_look hok.1.2 m]
        rfl
      have hlen : (ys.map (fun y => (lookS y kds).getD .none)).length = (ys.map fun y => (valV kvs (.inr y)).getD .non).length := by simp
      have hsq : SqL K H7 D (ys.map fun y => (valV kvs (.inr y)).getD .non) := SqL.of hD
      have sH : Same H H7 := sl.trans (sp.trans s7)
      have dl : (ys.map (fun y => (lookS y kds).getD .none)).length ≤ 50 := by
        rw [List.length_map]
        omega
      generalize (ys.map (fun y => (lookS y kds).getD .none)) = ds at rls mem tot hlen dl
      generalize (ys.map fun y => (valV kvs (.inr y)).getD .non) = xs at rls hlen hsq
      refine ⟨_, rfl, D, rfl, ⟨_, hsq⟩, fun D2 nD2 => lc_vals (walk_list (xs := xs)) (fun i => V.int (parts (ds.getD i .none))) (Same.refl H7) nD2 (by omega) (fun H8 s8 => sq_same s8 (hsq)) ?_ ?_⟩
      · rintro i x H8 H9 hi s8 ⟨rfl, hx⟩ Qc kc
        obtain ⟨d, hd, rx⟩ := rpL_get rls hx
        obtain ⟨q1, q2, q3⟩ := mem d (List.mem_of_getElem? hd)
        have ed : ds.getD i .none = d := by rw [List.getD_eq_getElem?_getD, hd]; rfl
        rw [ed] at kc
        exact ⟨rfl, _, rfl, x, d, rfl, rx.same s8, q1, q2, q3, fun H3 s3 => kc H3 s3⟩
      · intro H8 s8 hD
        refine ⟨D2, ds.map parts, rfl, SqL.of ?_, _, _, rfl, rfl, ?_⟩
        · rw [hD, ← hlen, range_get (f := fun d => V.int (parts d)) (fun i x hx => by rw [List.getD_eq_getElem?_getD, hx]; rfl), List.map_map]
          rfl
        · show Q (V.int (1 + (ds.map parts).sum)) H8
          rw [tot]
          exact k H8 (sH.trans s8)
  | _ =>
    have tot : (1 : Int) + (([] : List PyData).map parts).sum = 1 := rfl
    have hsq : SqL K H1 l [] := SqL.of hl
    refine ⟨_, rfl, _, _, _, _, false, rfl, .ty _, rd1, rfl, _, rfl, iF ⟨_, rfl, _, _, _, _, false, rfl, .ty _, rd1, rfl, _, rfl, iF ?_⟩⟩
    refine ⟨_, rfl, l, rfl, ⟨_, hsq⟩, fun D nD => lc_vals (walk_list (xs := [])) (fun i => V.int 0) (Same.refl H1) nD (by decide) (fun H8 s8 => sq_same s8 hsq) ?_ ?_⟩
    · rintro i x H8 H9 hi
      exact absurd hi (Nat.not_lt_zero _)
    · intro H8 s8 hD
      exact ⟨D, [], rfl, SqL.of hD, _, _, rfl, rfl, k H8 (sl.trans s8)⟩
theorem ok_lparts (T : Tx P K mg) {B : Nat} (hB : B ≤ 50) : ∀ n : Nat, FnOk P w K mg base CX0 (n + 1) T.a__law_parts T.fd__law_parts ["_law_document"] (spParts B n)
  | 0 => ⟨fun vs H Q E h => by
      obtain ⟨_, _, _, _, _, z, _⟩ := h
      exact absurd z (Nat.not_lt_zero _), fun A outer s H args us vs Q E hr e0 hb r h => by
      obtain ⟨_, _, _, _, _, z, _⟩ := h
      exact absurd z (Nat.not_lt_zero _)⟩
  | n + 1 => lparts_step T hB (ok_lparts T hB n)
end
end K00
end
section
set_option Elab.async false
set_option linter.all false
set_option maxRecDepth 100000
set_option maxHeartbeats 4000000
set_option pp.maxSteps 500
namespace K00
open PySem PySem.Spec PyProof.Rows L2 Tg
local macro_rules | `(tactic| walk_at "c") => `(tactic| first | assumption | trivial | omega | (constructor <;> omega) | decide | exact len_ok (Nat.le_of_ble_eq_true rfl))
local macro_rules | `(tactic| walk_at "sq") => `(tactic| first | exact SqL.of (by assumption) | exact SqL.of upd_same | assumption | exact SqT.of (by assumption) | exact SqT.of upd_same | exact .inl (SqL.of (by assumption)) | exact .inr (SqT.of (by assumption)))
local macro_rules | `(tactic| walk_at "r1") => `(tactic| first
  | refine ⟨_, rfl, ?_⟩
  | refine ⟨_, _, rfl, rfl, ?_⟩
  | refine .inl ⟨_, rfl, ?_⟩
  | refine .inr ⟨_, rfl, ?_⟩
  | (apply Exists.intro; apply Exists.intro; apply Exists.intro; apply Exists.intro; refine And.intro rfl (And.intro rfl (And.intro ?sq ?_)); (case sq => walk_at "sq"); refine And.intro rfl ?_)
  | (apply Exists.intro; apply Exists.intro; apply Exists.intro; apply Exists.intro; refine And.intro rfl (And.intro rfl (And.intro ?hp ?_)); (case hp => first | assumption | exact upd_same); refine And.intro rfl ?_)
  | (refine And.intro ?c ?_; (case c => walk_at "c")))
local macro_rules | `(tactic| walk_at "r") => `(tactic| repeat walk_at "r1")
/-- str(None), str(True) -/
def rStrW : List V → Hp → VK → Prop := fun xs H Q => (xs = [.non] ∧ Q (.str "None") H) ∨ ∃ b : Bool, xs = [.bl b] ∧ Q (.str (if b then "True" else "False")) H
theorem call_strW {X : Cx} : CallR X (.type "str") rStrW := by
  rintro pins s σ H xs us Q I r (⟨rfl, q⟩ | ⟨b, rfl, q⟩)
  · obtain ⟨u, rfl, ru⟩ := vals1 r
    cases ru
    exact PySem.P.str_of_none ⟨.str _, H, I.tok _, ⟨_, rfl⟩, q⟩
  · obtain ⟨u, rfl, ru⟩ := vals1 r
    cases ru
    exact PySem.P.str_of_bool ⟨.str _, H, I.tok _, ⟨_, rfl⟩, q⟩
end K00
end
section
set_option Elab.async false
set_option linter.all false
set_option maxHeartbeats 4000000
/-! the plain law of k00: inks and sameness -/
namespace K00
open PySem PySem.Spec PyProof.Rows
def leS (x y : Str) : Prop := x.cps.toList ≤ y.cps.toList
theorem leS_anti {x y : Str} (a : leS x y) (b : leS y x) : x = y := by
  have e := List.le_antisymm a b
  exact Str.ext' (Array.toList_inj.mp e)
theorem rising_pair : ∀ {p : Str} {ys : List Str}, risingS p ys = true → (p :: ys).Pairwise leS
  | p, [], _ => List.pairwise_singleton _ _
  | p, y :: ys, h => by
    simp only [risingS, Bool.and_eq_true, Bool.not_eq_true', ltCps_eq, decide_eq_false_iff_not] at h
    have ih := rising_pair h.2
    have h1 : leS p y := List.not_lt.mp h.1
    refine List.pairwise_cons.mpr ⟨fun z hz => ?_, ih⟩
    rcases List.mem_cons.mp hz with rfl | hz
    · exact h1
    · exact List.le_trans h1 ((List.pairwise_cons.mp ih).1 z hz)
theorem sortedS_pair {ys : List Str} (h : sortedS ys = true) : ys.Pairwise leS := by
  cases ys with
  | nil => exact List.Pairwise.nil
  | cons y ys => exact rising_pair h
theorem sorted_one {xs ys : List Str} (p : xs.Perm ys) (h1 : sortedS xs = true) (h2 : sortedS ys = true) : xs = ys :=
  List.Perm.eq_of_pairwise (fun a b _ _ h k => leS_anti h k) (sortedS_pair h1) (sortedS_pair h2) p
end K00
end
section
set_option Elab.async false
set_option linter.all false
set_option maxHeartbeats 4000000
namespace K00
open PySem PySem.Spec PyProof.Rows
def pairs (ys : List Str) (us : List PyData) : List PyData := List.zipWith (fun y u => PyData.tuple [.str y, u]) ys us
mutual
/-- t is the ink of d -/
def Ink : PyData → PyData → Prop
  | .list ds, t => ∃ ts, t = .tuple (.str "list" :: ts) ∧ InkL ds ts
  | .dict kds, t => ∃ ys us, ys.Perm (keyS kds) ∧ sortedS ys = true ∧ us.length = ys.length ∧ t = .tuple (.str "record" :: pairs ys us) ∧ ∀ (i : Nat) (y : Str) (u : PyData), ys[i]? = some y → us[i]? = some u → InkK kds y u
  | .none, t => t = .tuple [.str "word", .str "None"]
  | .bool b, t => t = .tuple [.str "word", .str (if b then "True" else "False")]
  | .str x, t => t = .tuple [.str "text", .str x]
  | .int i, t => t = .tuple [.str "int", .int i]
  | .tuple _, _ => False
def InkL : List PyData → List PyData → Prop
  | [], ts => ts = []
  | d :: ds, ts => ∃ t r, ts = t :: r ∧ Ink d t ∧ InkL ds r
def InkK : List (PyData × PyData) → Str → PyData → Prop
  | [], _, _ => False
  | (k, d) :: r, y, u => (k = .str y ∧ Ink d u) ∨ InkK r y u
end
theorem inkK_get : ∀ {kds : List (PyData × PyData)} {y : Str} {u : PyData}, InkK kds y u → ∃ d, (PyData.str y, d) ∈ kds ∧ Ink d u
  | (k, d) :: r, y, u, h => by
    simp only [InkK] at h
    rcases h with ⟨rfl, h⟩ | h
    · exact ⟨d, List.mem_cons_self, h⟩
    · obtain ⟨e, m, i⟩ := inkK_get h
      exact ⟨e, List.mem_cons_of_mem _ m, i⟩
theorem inkL_len : ∀ {ds ts : List PyData}, InkL ds ts → ts.length = ds.length
  | [], ts, h => by
    simp only [InkL] at h
    subst h
    rfl
  | d :: ds, ts, h => by
    simp only [InkL] at h
    obtain ⟨t, r, rfl, _, h⟩ := h
    simp [inkL_len h]
theorem keyS_mem : ∀ {kds : List (PyData × PyData)} {y : Str}, y ∈ keyS kds ↔ ∃ d, (PyData.str y, d) ∈ kds
  | [], y => by simp [keyS]
  | (k, d) :: r, y => by
    cases k with
    | str x =>
      simp only [keyS, List.mem_cons, keyS_mem (kds := r)]
      constructor
      · rintro (rfl | ⟨e, m⟩)
        · exact ⟨d, .inl rfl⟩
        · exact ⟨e, .inr m⟩
      · rintro ⟨e, m | m⟩
        · cases m
          exact .inl rfl
        · exact .inr ⟨e, m⟩
    | _ =>
      simp only [keyS, List.mem_cons, keyS_mem (kds := r)]
      constructor
      · rintro ⟨e, m⟩
        exact ⟨e, .inr m⟩
      · rintro ⟨e, m | m⟩
        · cases m
        · exact ⟨e, m⟩
theorem look_none : ∀ {kds : List (PyData × PyData)} {y : Str}, lookS y kds = none → y ∉ keyS kds
  | [], y, _ => by simp [keyS]
  | (k, d) :: r, y, h => by
    cases k with
    | str x =>
      by_cases q : x = y
      · simp [lookS, q] at h
      · have h' : lookS y r = none := by simpa [lookS, q] using h
        simp only [keyS, List.mem_cons, not_or]
        exact ⟨fun z => q z.symm, look_none h'⟩
    | _ => exact look_none (kds := r) h
theorem keyS_nodup : ∀ {kds : List (PyData × PyData)}, ndK kds = true → (keyS kds).Nodup
  | [], _ => List.nodup_nil
  | (k, d) :: r, h => by
    cases k with
    | str x =>
      simp only [ndK, Bool.and_eq_true, Option.isNone_iff_eq_none] at h
      exact List.nodup_cons.mpr ⟨look_none h.1, keyS_nodup h.2⟩
    | _ => exact keyS_nodup (kds := r) h
theorem keyS_len : ∀ {kds : List (PyData × PyData)}, isDocK kds = true → (keyS kds).length = kds.length
  | [], _ => rfl
  | (k, d) :: r, h => by
    simp only [isDocK, Bool.and_eq_true] at h
    cases k with
    | str x => simp [keyS, keyS_len h.2]
    | _ => simp [isNm] at h
theorem pairs_inj : ∀ {ys zs : List Str} {us vs : List PyData}, us.length = ys.length → vs.length = zs.length → pairs ys us = pairs zs vs → ys = zs ∧ us = vs
  | [], [], [], [], _, _, _ => ⟨rfl, rfl⟩
  | [], z :: zs, [], v :: vs, _, _, h => by simp [pairs] at h
  | y :: ys, [], u :: us, [], _, _, h => by simp [pairs] at h
  | y :: ys, z :: zs, u :: us, v :: vs, h1, h2, h => by
    simp only [pairs, List.zipWith_cons_cons, List.cons.injEq, PyData.tuple.injEq, PyData.str.injEq, and_true] at h
    obtain ⟨⟨rfl, rfl⟩, h⟩ := h
    obtain ⟨rfl, rfl⟩ := pairs_inj (by simpa using h1) (by simpa using h2) h
    exact ⟨rfl, rfl⟩
end K00
end
section
set_option Elab.async false
set_option linter.all false
set_option maxRecDepth 100000
set_option maxHeartbeats 4000000
set_option pp.maxSteps 500
namespace K00
open PySem PySem.Spec PyProof.Rows L2 Tg
local macro_rules | `(tactic| walk_at "c") => `(tactic| first | assumption | trivial | omega | (constructor <;> omega) | decide | exact len_ok (Nat.le_of_ble_eq_true rfl))
local macro_rules | `(tactic| walk_at "sq") => `(tactic| first | exact SqL.of (by assumption) | exact SqL.of upd_same | assumption | exact SqT.of (by assumption) | exact SqT.of upd_same | exact .inl (SqL.of (by assumption)) | exact .inr (SqT.of (by assumption)))
local macro_rules | `(tactic| walk_at "r1") => `(tactic| first
  | refine ⟨_, rfl, ?_⟩
  | refine ⟨_, _, rfl, rfl, ?_⟩
  | refine .inl ⟨_, rfl, ?_⟩
  | refine .inr ⟨_, rfl, ?_⟩
  | (apply Exists.intro; apply Exists.intro; apply Exists.intro; apply Exists.intro; refine And.intro rfl (And.intro rfl (And.intro ?sq ?_)); (case sq => walk_at "sq"); refine And.intro rfl ?_)
  | (apply Exists.intro; apply Exists.intro; apply Exists.intro; apply Exists.intro; refine And.intro rfl (And.intro rfl (And.intro ?hp ?_)); (case hp => first | assumption | exact upd_same); refine And.intro rfl ?_)
  | (refine And.intro ?c ?_; (case c => walk_at "c")))
local macro_rules | `(tactic| walk_at "r") => `(tactic| repeat walk_at "r1")
theorem inkL_of : ∀ {ds ts : List PyData}, ts.length = ds.length → (∀ (i : Nat) d t, ds[i]? = some d → ts[i]? = some t → Ink d t) → InkL ds ts
  | [], [], _, _ => by simp [InkL]
  | d :: ds, t :: ts, h, k => by
    simp only [InkL]
    exact ⟨t, ts, rfl, k 0 d t rfl rfl, inkL_of (by simpa using h) fun i d t h1 h2 => k (i + 1) d t (by simpa using h1) (by simpa using h2)⟩
  | [], t :: ts, h, _ => by simp at h
  | d :: ds, [], h, _ => by simp at h
theorem inkK_of : ∀ {kds : List (PyData × PyData)} {y : Str} {d u : PyData}, (PyData.str y, d) ∈ kds → Ink d u → InkK kds y u
  | (k, e) :: r, y, d, u, m, h => by
    simp only [InkK]
    rcases List.mem_cons.mp m with m | m
    · cases m
      exact .inl ⟨rfl, h⟩
    · exact .inr (inkK_of m h)
theorem pairs_of {Pk : Str → PyData → Prop} : ∀ {ys : List Str} {ts : List PyData}, ts.length = ys.length → (∀ (i : Nat) t, ts[i]? = some t → ∃ u, Pk (ys.getD i Str.empty) u ∧ t = PyData.tuple [.str (ys.getD i Str.empty), u]) → ∃ us, us.length = ys.length ∧ ts = pairs ys us ∧ ∀ (i : Nat) (y : Str) (u : PyData), ys[i]? = some y → us[i]? = some u → Pk y u
  | [], [], _, _ => ⟨[], rfl, rfl, fun i y u z => by simp at z⟩
  | y :: ys, t :: ts, h, k => by
    obtain ⟨u, p, e⟩ := k 0 t rfl
    obtain ⟨us, l, e2, p2⟩ := pairs_of (Pk := Pk) (ys := ys) (ts := ts) (by simpa using h) fun i t z => k (i + 1) t (by simpa using z)
    refine ⟨u :: us, by simp [l], ?_, fun i y' u' h1 h2 => ?_⟩
    · rw [e, e2]
      rfl
    · cases i with
      | zero => simp at h1 h2; subst h1 h2; exact p
      | succ i => exact p2 i y' u' (by simpa using h1) (by simpa using h2)
  | [], t :: ts, h, _ => by simp at h
  | d :: ds, [], h, _ => by simp at h
theorem same_put {H1 H : Hp} {D : Addr} {o : HO} (nD : H1 D = none) (s : Same H1 H) : Same H1 (upd H D o) := fun b u e => by
  rw [upd_ne (ne_of_none e nD)]
  exact s _ _ e
def spInk (B n : Nat) : Sp := fun vs H Q _ => ∃ (v : V) (d : PyData), vs = [v] ∧ Rp H d v ∧ okD B d = true ∧ d.depth < n ∧ isDoc d = true ∧ ∀ H' u t, Same H H' → Rp H' t u → Ink d t → Q u H'
section
variable {P : Program} {w : World} {K : PySem.W.Frag} {mg : Str → Option Value} {base : Heap}
theorem kit_s {K : PySem.W.Frag} (d : PyData) : PySem.W.kitOne K (tyD d) (.type "str") = some (isS d) := by cases d <;> rfl
theorem ink_step (T : Tx P K mg) {B n k : Nat} (hB : B ≤ 50) (G__law_ink : FnOk P w K mg base CX0 (k + 1) T.a__law_ink T.fd__law_ink ["_law_document"] (spInk B n)) : FnOk P w K mg base CX0 (k + 2) T.a__law_ink T.fd__law_ink ["_law_document"] (spInk B (n + 1)) := by
  refine T.F__law_ink.ok sc__law_ink (fun vs H Q E h => ?_) (fun cdv A outer s H vs Q E hr h => ?_)
  · obtain ⟨v, d, rfl, _⟩ := h
    rfl
  obtain ⟨v, d, rfl, rd, hok, hdp, hdoc, k⟩ := h
  refine ⟨_, (pss_cons (ps_if (pt_val (pe_callB call_isD (by rfl) T.n_isinstance PyProof.Rows.Boot.«isinstance» (pa_cons (pv 0) (pa_cons (pe_bltn (v := .ty "list") (by rfl) T.n_list PyProof.Rows.Boot.«list» rfl) pa_nil)))) (pss_one (ps_ret (pe_op op_catT (pe_tup (pa_cons pe_str pa_nil)) (pe_callTy call_tuple_of (by rfl) T.n_tuple PyProof.Rows.Boot.«tuple» (pa_cons (pe_lc (own := [("_law_part", 1)]) (g := gName 1) (tt := tYes) (by rfl) sc__law_ink.nd (pi_list (pv 0)) (blkOk_by (own := [("_law_part", 1)]) (N := ["_law_document", "_law_part", "_law_field"]) (sc := defScope s__law_ink) (by decide +kernel)) (fun _ _ _ _ _ => (pg_name (i := 1) sc__law_ink.nd rfl (Or.inl rfl))) (fun _ _ _ _ _ => pts_nil) (fun _ _ _ _ _ => (pe_call G__law_ink (hr.mono (by first | decide | omega)) (by rfl) T.m__law_ink T.F__law_ink.kp T.b__law_ink .nil pass0 (pa_cons (pv 1) pa_nil)))) pa_nil))))) pss_nil)
      (pss_cons (ps_if (pt_val (pe_callB call_isD (by rfl) T.n_isinstance PyProof.Rows.Boot.«isinstance» (pa_cons (pv 0) (pa_cons (pe_bltn (v := .ty "dict") (by rfl) T.n_dict PyProof.Rows.Boot.«dict» rfl) pa_nil)))) (pss_one (ps_ret (pe_op op_catT (pe_tup (pa_cons pe_str pa_nil)) (pe_callTy call_tuple_of (by rfl) T.n_tuple PyProof.Rows.Boot.«tuple» (pa_cons (pe_lc (own := [("_law_field", 2)]) (g := gName 2) (tt := tYes) (by rfl) sc__law_ink.nd (pi_list (pe_callB (call_sortedD rfl) (by rfl) T.n_sorted PyProof.Rows.Boot.«sorted» (pa_cons (pv 0) pa_nil))) (blkOk_by (own := [("_law_field", 2)]) (N := ["_law_document", "_law_part", "_law_field"]) (sc := defScope s__law_ink) (by decide +kernel)) (fun _ _ _ _ _ => (pg_name (i := 2) sc__law_ink.nd rfl (Or.inl rfl))) (fun _ _ _ _ _ => pts_nil) (fun _ _ _ _ _ => (pe_tup (pa_cons (pv 2) (pa_cons (pe_call G__law_ink (hr.mono (by first | decide | omega)) (by rfl) T.m__law_ink T.F__law_ink.kp T.b__law_ink .nil pass0 (pa_cons (pe_dget (hu_of hr) (pv 0) (pv 2) (fun _ _ => rfl)) pa_nil)) pa_nil))))) pa_nil))))) pss_nil)
      (pss_cons (ps_if (PW.pt (pw_or (pt_cmpR op_isN (pv 0) pe_non (nomark _)) (pw_or1 (pt_val (pe_callB call_isD (by rfl) T.n_isinstance PyProof.Rows.Boot.«isinstance» (pa_cons (pv 0) (pa_cons (pe_bltn (v := .ty "bool") (by rfl) T.n_bool PyProof.Rows.Boot.«bool» rfl) pa_nil))))))) (pss_one (ps_ret (pe_tup (pa_cons pe_str (pa_cons (pe_callTy call_strW (by rfl) T.n_str PyProof.Rows.Boot.«str» (pa_cons (pv 0) pa_nil)) pa_nil))))) pss_nil)
      (pss_one (ps_ret (pe_tup (pa_cons (pe_ifExp (pt_val (pe_callB call_isD (by rfl) T.n_isinstance PyProof.Rows.Boot.«isinstance» (pa_cons (pv 0) (pa_cons (pe_bltn (v := .ty "str") (by rfl) T.n_str PyProof.Rows.Boot.«str» rfl) pa_nil)))) pe_str pe_str) (pa_cons (pv 0) pa_nil)))))))), ?_⟩
  have rd0 := rd
  refine ⟨_, rfl, _, _, d, _, _, rfl, .ty _, rd, kit_l d, _, rfl, ?_⟩
  cases d with
  | tuple ds => simp [isDoc] at hdoc
  | list ds =>
    refine iT ?_
    simp only [Rp] at rd
    obtain ⟨a, o, xs, rfl, ha, rl⟩ := rd
    simp only [okD, Bool.and_eq_true, decide_eq_true_eq] at hok
    simp only [PyData.depth] at hdp
    rw [isDoc] at hdoc
    have hlen := rpL_len rl
    refine ⟨len_ok (by show 1 ≤ 1000; decide), fun t nt => ?_⟩
    have st : Same H (upd H t (.tup [.str "list"])) := same_new nt
    have ht : upd H t (.tup [.str "list"]) t = some (.tup [.str "list"]) := upd_same
    show tCB _ _ _ (upd H t (.tup [.str "list"])) _
    generalize upd H t (.tup [.str "list"]) = H1 at st ht ⊢
    have hsq : SqL K H1 a xs := .inl (.inr ⟨o, st _ _ ha⟩)
    refine ⟨_, rfl, a, rfl, ⟨xs, hsq⟩, fun D nD => lc_gen (walk_list (xs := xs)) (fun _ H2 => Same H1 H2) (fun i v H2 => ∃ t, Ink (ds.getD i .none) t ∧ Rp H2 t v) (fun _ _ _ _ s2 _ => same_put nD s2) (fun i v H2 H3 ⟨t, i1, r1⟩ kp => ⟨t, i1, r1.keep kp⟩) (by omega) (same_new nD) (fun i H2 _ s2 => sq_same s2 hsq) ?_ ?_⟩
    · rintro i x H2 H3 acc hi s2 hD ⟨rfl, hx⟩ Qc kc
      obtain ⟨d, hd, rx⟩ := rpL_get rl hx
      obtain ⟨o1, o2⟩ := okL_get hok.2 (List.mem_of_getElem? hd)
      have ed : ds.getD i .none = d := by rw [List.getD_eq_getElem?_getD, hd]; rfl
      rw [ed] at kc
      exact ⟨rfl, _, rfl, x, d, rfl, rx.same (st.trans s2), o1, by omega, docL_get hdoc (List.mem_of_getElem? hd), fun H4 u t s4 r4 ik => kc u H4 (s4 _ _ hD) (Kp.same s4) (s2.trans s4) ⟨t, ik, r4⟩⟩
    · intro H2 vs s2 hD hl hr2
      obtain ⟨ts, rts, lts, its⟩ := rpL_of hr2
      have ik : Ink (.list ds) (.tuple (.str "list" :: ts)) := by
        simp only [Ink]
        refine ⟨ts, rfl, inkL_of (by omega) fun i d t h1 h2 => ?_⟩
        have q := its i t h2
        rw [List.getD_eq_getElem?_getD, h1] at q
        exact q
      refine ⟨D, vs, rfl, .inl ⟨SqL.of hD, fun l nl => ?_⟩⟩
      have s3 : Same H2 (upd H2 l (.tup vs)) := same_new nl
      refine ⟨t, l, _, _, rfl, rfl, SqT.of (s3 _ _ (s2 _ _ ht)), SqT.of upd_same, by simp, (by rw [sizeLine_eq]; show 1 + vs.length ≤ _; omega), fun e => ?_, fun ne p np => ?_⟩
      · subst e
        have e2 : ts = [] := List.eq_nil_of_length_eq_zero (by simpa using lts)
        subst e2
        exact k _ _ _ (st.trans (s2.trans s3)) (Rp.tup (s3 _ _ (s2 _ _ ht)) (RpL.cons Rp.str RpL.nil)) ik
      · exact k _ _ _ (st.trans (s2.trans (s3.trans (same_new np)))) (Rp.tup upd_same (RpL.cons Rp.str (rts.same (s3.trans (same_new np))))) ik
  | dict kds =>
    refine iF ?_
    obtain ⟨a, o, kvs, rfl, ha, rl⟩ := doc_dict rd hdoc
    simp only [okD, Bool.and_eq_true, decide_eq_true_eq] at hok
    simp only [PyData.depth] at hdp
    have hdoc2 := hdoc
    rw [isDoc] at hdoc2
    have nlen := rpD_len rl
    have klen : (keyS kds).length = kvs.length := by
      have q := congrArg List.length (doc_keys rl hdoc2)
      simpa using q.symm
    refine ⟨_, rfl, _, _, _, _, true, rfl, .ty _, rd0, rfl, _, rfl, iT ?_⟩
    refine ⟨len_ok (by show 1 ≤ 1000; decide), fun t nt => ?_⟩
    have st : Same H (upd H t (.tup [.str "record"])) := same_new nt
    have ht : upd H t (.tup [.str "record"]) t = some (.tup [.str "record"]) := upd_same
    show tCB _ _ _ (upd H t (.tup [.str "record"])) _
    generalize upd H t (.tup [.str "record"]) = H1 at st ht ⊢
    refine ⟨_, rfl, a, kvs, keyS kds, rfl, .inr ⟨o, st _ _ ha⟩, doc_keys rl hdoc2, by omega, fun ys p pm srt np => ?_⟩
    have yk : ∀ y ∈ ys, ∃ d v, (PyData.str y, d) ∈ kds ∧ valV kvs (.inr y) = some v ∧ Rp H1 d v := fun y hy => by
      have m1 := pm.mem_iff.mp hy
      cases hv : valV kvs (.inr y) with
      | none => exact absurd (keyS_look m1 hdoc2) (by rw [rpD_val_none rl hv]; simp)
      | some v =>
        obtain ⟨e, e1, e2, e3⟩ := rpD_val rl hv
        exact ⟨e, v, e3, rfl, e2.same st⟩
    have ylen : ys.length = kds.length := by rw [pm.length_eq]; omega
    have sp : Same H1 (upd H1 p (.lst (ys.map V.str))) := same_new np
    have hsq : SqL K (upd H1 p (.lst (ys.map V.str))) p (ys.map V.str) := SqL.of upd_same
    generalize upd H1 p (.lst (ys.map V.str)) = H2 at sp hsq ⊢
    refine ⟨p, rfl, ⟨_, hsq⟩, fun D nD => lc_gen (walk_list (xs := ys.map V.str)) (fun _ H3 => Same H2 H3) (fun i v H3 => ∃ t, (∃ u, InkK kds (ys.getD i Str.empty) u ∧ t = PyData.tuple [.str (ys.getD i Str.empty), u]) ∧ Rp H3 t v) (fun _ _ _ _ s2 _ => same_put nD s2)
      (fun i v H2 H3 ⟨t, i1, r1⟩ kp => ⟨t, i1, r1.keep kp⟩) (by rw [List.length_map]; omega) (same_new nD) (fun i H2 _ s2 => sq_same s2 hsq) ?_ ?_⟩
    · rintro i x H3 H4 acc hi s3 hD ⟨rfl, hx⟩ Qc kc
      rw [List.getElem?_map] at hx
      cases hy : ys[i]? with
      | none => rw [hy] at hx; cases hx
      | some y =>
        rw [hy] at hx
        cases hx
        have ed : ys.getD i Str.empty = y := by rw [List.getD_eq_getElem?_getD, hy]; rfl
        rw [ed] at kc
        obtain ⟨d, v, m, hv, rv⟩ := yk y (List.mem_of_getElem? hy)
        obtain ⟨q1, q2, q3⟩ := okK_get hok.2 m
        have hg : DGet H4 a (kV (.inr y)) (some v) := .inl ⟨kvs, .inr y, .inr ⟨o, s3 _ _ (sp _ _ (st _ _ ha))⟩, rfl, hv.symm⟩
        refine ⟨rfl, _, rfl, _, rfl, _, rfl, a, v, rfl, hg, v, d, rfl, rv.same (sp.trans s3), q2, by omega, (docK_get hdoc2 m).2, fun H5 u t s5 r5 ik => ⟨len_ok (by show 2 ≤ 1000; decide), fun tt ntt => ?_⟩⟩
        have s6 : Same H5 (upd H5 tt (.tup [.str y, u])) := same_new ntt
        exact kc _ _ (s6 _ _ (s5 _ _ hD)) (Kp.same (s5.trans s6)) (s3.trans (s5.trans s6)) ⟨_, ⟨t, inkK_of m ik, rfl⟩, Rp.tup upd_same (RpL.cons Rp.str (RpL.cons (r5.same s6) RpL.nil))⟩
    · intro H3 vs s3 hD hl hr2
      rw [List.length_map] at hl
      obtain ⟨ts, rts, lts, its⟩ := rpL_of hr2
      obtain ⟨us, ul, et, uk⟩ := pairs_of (Pk := InkK kds) (ys := ys) (ts := ts) (by omega) its
      have ik : Ink (.dict kds) (.tuple (.str "record" :: ts)) := by
        simp only [Ink]
        exact ⟨ys, us, pm, srt, ul, by rw [et], uk⟩
      refine ⟨D, vs, rfl, .inl ⟨SqL.of hD, fun l nl => ?_⟩⟩
      have s4 : Same H3 (upd H3 l (.tup vs)) := same_new nl
      have ht3 : H3 t = some (.tup [.str "record"]) := s3 _ _ (sp _ _ ht)
      refine ⟨t, l, _, _, rfl, rfl, SqT.of (s4 _ _ ht3), SqT.of upd_same, by simp, (by rw [sizeLine_eq]; show 1 + vs.length ≤ _; omega), fun e => ?_, fun ne p np => ?_⟩
      · subst e
        have e2 : ts = [] := List.eq_nil_of_length_eq_zero (by simpa using lts)
        subst e2
        exact k _ _ _ (st.trans (sp.trans (s3.trans s4))) (Rp.tup (s4 _ _ ht3) (RpL.cons Rp.str RpL.nil)) ik
      · exact k _ _ _ (st.trans (sp.trans (s3.trans (s4.trans (same_new np))))) (Rp.tup upd_same (RpL.cons Rp.str (rts.same (s4.trans (same_new np))))) ik
  | none =>
    refine iF ⟨_, rfl, _, _, _, _, false, rfl, .ty _, rd0, rfl, _, rfl, iF ?_⟩
    simp only [Rp] at rd
    subst rd
    refine ⟨_, rfl, rfl, true, rfl, iT (iT ⟨_, rfl, .inl ⟨rfl, len_ok (by show 2 ≤ 1000; decide), fun p np => ?_⟩⟩)⟩
    exact k _ _ _ (same_new np) (Rp.tup upd_same (RpL.cons Rp.str (RpL.cons Rp.str RpL.nil))) (by simp only [Ink])
  | bool b =>
    refine iF ⟨_, rfl, _, _, _, _, false, rfl, .ty _, rd0, rfl, _, rfl, iF ?_⟩
    simp only [Rp] at rd
    subst rd
    refine ⟨_, rfl, rfl, false, rfl, iF ⟨_, rfl, _, _, _, _, true, rfl, .ty _, rd0, rfl, _, rfl, iT ⟨_, rfl, .inr ⟨b, rfl, len_ok (by show 2 ≤ 1000; decide), fun p np => ?_⟩⟩⟩⟩
    exact k _ _ _ (same_new np) (Rp.tup upd_same (RpL.cons Rp.str (RpL.cons Rp.str RpL.nil))) (by simp only [Ink])
  | int i =>
    refine iF ⟨_, rfl, _, _, _, _, false, rfl, .ty _, rd0, rfl, _, rfl, iF ?_⟩
    simp only [Rp] at rd
    subst rd
    refine ⟨_, rfl, rfl, false, rfl, iF ⟨_, rfl, _, _, _, _, false, rfl, .ty _, rd0, rfl, _, rfl, iF ⟨_, rfl, _, _, _, _, false, rfl, .ty _, rd0, rfl, _, rfl, iF ⟨_, rfl, len_ok (by show 2 ≤ 1000; decide), fun p np => ?_⟩⟩⟩⟩
    exact k _ _ _ (same_new np) (Rp.tup upd_same (RpL.cons Rp.str (RpL.cons Rp.int RpL.nil))) (by simp only [Ink])
  | str x =>
    refine iF ⟨_, rfl, _, _, _, _, false, rfl, .ty _, rd0, rfl, _, rfl, iF ?_⟩
    simp only [Rp] at rd
    subst rd
    refine ⟨_, rfl, rfl, false, rfl, iF ⟨_, rfl, _, _, _, _, false, rfl, .ty _, rd0, rfl, _, rfl, iF ⟨_, rfl, _, _, _, _, true, rfl, .ty _, rd0, rfl, _, rfl, iT ⟨_, rfl, len_ok (by show 2 ≤ 1000; decide), fun p np => ?_⟩⟩⟩⟩
    exact k _ _ _ (same_new np) (Rp.tup upd_same (RpL.cons Rp.str (RpL.cons Rp.str RpL.nil))) (by simp only [Ink])
theorem ok_ink (T : Tx P K mg) {B : Nat} (hB : B ≤ 50) : ∀ n : Nat, FnOk P w K mg base CX0 (n + 1) T.a__law_ink T.fd__law_ink ["_law_document"] (spInk B n)
  | 0 => ⟨fun vs H Q E h => by
      obtain ⟨_, _, _, _, _, z, _⟩ := h
      exact absurd z (Nat.not_lt_zero _), fun A outer s H args us vs Q E hr e0 hb r h => by
      obtain ⟨_, _, _, _, _, z, _⟩ := h
      exact absurd z (Nat.not_lt_zero _)⟩
  | n + 1 => ink_step T hB (ok_ink T hB n)
end
end K00
end
section
set_option Elab.async false
set_option linter.all false
set_option maxRecDepth 100000
set_option maxHeartbeats 4000000
set_option pp.maxSteps 1000
/-! the plain law of k00: inks are equal just if the documents are the same -/
namespace K00
open PySem PySem.Spec PyProof.Rows
theorem perm_sub : ∀ {l1 l2 : List Str}, l1.Nodup → (∀ x ∈ l1, x ∈ l2) → l2.length ≤ l1.length → l1.Perm l2
  | [], l2, _, _, h => by
    have e : l2 = [] := List.eq_nil_of_length_eq_zero (by simpa using h)
    rw [e]
  | a :: l, l2, nd, sub, h => by
    have ma := sub a List.mem_cons_self
    have p := List.perm_cons_erase ma
    have nd' := List.nodup_cons.mp nd
    have ih := perm_sub (l1 := l) (l2 := l2.erase a) nd'.2 (fun x hx => (List.mem_erase_of_ne (fun (q : x = a) => nd'.1 (q ▸ hx))).mpr (sub x (List.mem_cons_of_mem _ hx))) (by
      rw [List.length_erase_of_mem ma]
      simp only [List.length_cons] at h
      omega)
    exact (List.Perm.cons a ih).trans p.symm
def hdS : PyData → Str
  | .list _ => "list"
  | .dict _ => "record"
  | .none | .bool _ => "word"
  | .str _ => "text"
  | .int _ => "int"
  | .tuple _ => "tuple"
theorem ink_hd {d t : PyData} (h : Ink d t) : ∃ r, t = .tuple (.str (hdS d) :: r) := by
  cases d with
  | list ds =>
    simp only [Ink] at h
    obtain ⟨ts, e, _⟩ := h
    exact ⟨_, e⟩
  | dict ds =>
    simp only [Ink] at h
    obtain ⟨ys, us, _, _, _, e, _⟩ := h
    exact ⟨_, e⟩
  | tuple ds => simp only [Ink] at h
  | _ =>
    simp only [Ink] at h
    exact ⟨_, h⟩
theorem hd_eq {d e t : PyData} (h : Ink d t) (k : Ink e t) : hdS d = hdS e := by
  obtain ⟨r, rfl⟩ := ink_hd h
  obtain ⟨r2, e2⟩ := ink_hd k
  injection e2 with e2
  injection e2 with e2
  injection e2
theorem inkL_get : ∀ {ds ts : List PyData} {i : Nat} {d t : PyData}, InkL ds ts → ds[i]? = some d → ts[i]? = some t → Ink d t
  | [], ts, i, d, t, _, h, _ => by simp at h
  | e :: ds, ts, i, d, t, h, h1, h2 => by
    simp only [InkL] at h
    obtain ⟨u, r, rfl, h3, h4⟩ := h
    cases i with
    | zero => simp at h1 h2; subst h1 h2; exact h3
    | succ i => exact inkL_get (i := i) h4 (by simpa using h1) (by simpa using h2)
theorem all_range {f : Nat → Bool} {n : Nat} : ((List.range n).map f).all id = true ↔ ∀ i, i < n → f i = true := by
  simp
theorem sameOne_of {ys : List (PyData × PyData)} {x : Str} {d e : PyData} (h : lookS x ys = some e) (k : sameD d e = true) : sameOne ys (.str x, d) = true := by
  simp only [sameOne, h, k]
theorem sameOne_get {ys : List (PyData × PyData)} {x : Str} {d : PyData} (h : sameOne ys (.str x, d) = true) : ∃ e, lookS x ys = some e ∧ sameD d e = true := by
  simp only [sameOne] at h
  split at h
  · rename_i e he
    exact ⟨e, he, h⟩
  · cases h
theorem doc_str {kds : List (PyData × PyData)} {k d : PyData} (h : isDocK kds = true) (m : (k, d) ∈ kds) : ∃ x, k = .str x := by
  have q := (docK_get h m).1
  cases k <;> first | exact ⟨_, rfl⟩ | simp [isNm] at q
theorem look_mem : ∀ {kds : List (PyData × PyData)} {x : Str} {e : PyData}, lookS x kds = some e → (PyData.str x, e) ∈ kds
  | (k, d) :: r, x, e, h => by
    cases k with
    | str y =>
      by_cases q : y = x
      · subst q
        simp [lookS] at h
        subst h
        exact List.mem_cons_self
      · exact List.mem_cons_of_mem _ (look_mem (by simpa [lookS, q] using h))
    | _ => exact List.mem_cons_of_mem _ (look_mem (kds := r) h)
theorem same_of_ink {B : Nat} : ∀ (n : Nat) (d1 d2 t : PyData), d1.depth < n → okD B d1 = true → okD B d2 = true → isDoc d1 = true → isDoc d2 = true → Ink d1 t → Ink d2 t → sameD d1 d2 = true
  | 0, _, _, _, h, _, _, _, _, _, _ => absurd h (Nat.not_lt_zero _)
  | n + 1, d1, d2, t, hn, o1, o2, c1, c2, h1, h2 => by
    have hh := hd_eq h1 h2
    cases d1 with
    | tuple ds => simp [isDoc] at c1
    | list ds => cases d2 with
      | list es =>
        simp only [Ink] at h1 h2
        obtain ⟨ts, rfl, i1⟩ := h1
        obtain ⟨ts2, e, i2⟩ := h2
        simp only [PyData.tuple.injEq, List.cons.injEq, true_and] at e
        subst e
        simp only [okD, Bool.and_eq_true, decide_eq_true_eq] at o1 o2
        simp only [PyData.depth] at hn
        rw [isDoc] at c1 c2
        have hl : ds.length = es.length := (inkL_len i1).symm.trans (inkL_len i2)
        have hs : sameL ds es = true := by
          rw [sameL_all hl, all_range]
          intro i hi
          have hi2 : i < es.length := by omega
          have hi3 : i < ts.length := by rw [inkL_len i1]; exact hi
          have e1 : ds[i]? = some ds[i] := List.getElem?_eq_getElem hi
          have e2 : es[i]? = some es[i] := List.getElem?_eq_getElem hi2
          rw [List.getD_eq_getElem?_getD, e1, List.getD_eq_getElem?_getD, e2]
          obtain ⟨q1, q2⟩ := okL_get o1.2 (List.getElem_mem hi)
          obtain ⟨q3, q4⟩ := okL_get o2.2 (List.getElem_mem hi2)
          show sameD ds[i] es[i] = true
          exact same_of_ink n _ _ ts[i] (by omega) q1 q3 (docL_get c1 (List.getElem_mem hi)) (docL_get c2 (List.getElem_mem hi2)) (inkL_get i1 e1 (List.getElem?_eq_getElem hi3)) (inkL_get i2 e2 (List.getElem?_eq_getElem hi3))
        simp [sameD, hl, hs]
      | _ => exact absurd hh (by simp only [hdS]; decide +kernel)
    | dict ds => cases d2 with
      | dict es =>
        simp only [Ink] at h1 h2
        obtain ⟨ys, us, pm, srt, ul, rfl, i1⟩ := h1
        obtain ⟨zs, vs, pm2, srt2, vl, e, i2⟩ := h2
        simp only [PyData.tuple.injEq, List.cons.injEq, true_and] at e
        obtain ⟨rfl, rfl⟩ := pairs_inj ul vl e
        simp only [okD, Bool.and_eq_true, decide_eq_true_eq] at o1 o2
        simp only [PyData.depth] at hn
        rw [isDoc] at c1 c2
        have hl : ds.length = es.length := by rw [← keyS_len c1, ← keyS_len c2, ← pm.length_eq, ← pm2.length_eq]
        have hs : sameK ds es = true := by
          rw [sameK_all, List.all_map, List.all_eq_true]
          rintro ⟨k, d⟩ m
          obtain ⟨x, rfl⟩ := doc_str c1 m
          have mx : x ∈ ys := pm.mem_iff.mpr (keyS_mem.mpr ⟨d, m⟩)
          obtain ⟨i, hi, ex⟩ := List.mem_iff_getElem.mp mx
          have e1 : ys[i]? = some x := by rw [List.getElem?_eq_getElem hi, ex]
          have e2 : us[i]? = some (us[i]'(by omega)) := List.getElem?_eq_getElem (by omega)
          obtain ⟨d', m', ik⟩ := inkK_get (i1 i x _ e1 e2)
          obtain ⟨e', m2, ik2⟩ := inkK_get (i2 i x _ e1 e2)
          have l1 := nd_look o1.1.2 m
          have l2 := nd_look o1.1.2 m'
          rw [l1] at l2
          cases l2
          have l3 := nd_look o2.1.2 m2
          obtain ⟨q1, q2, q3⟩ := okK_get o1.2 m
          obtain ⟨q4, q5, q6⟩ := okK_get o2.2 m2
          exact sameOne_of l3 (same_of_ink n _ _ _ (by omega) q2 q5 (docK_get c1 m).2 (docK_get c2 m2).2 ik ik2)
        simp [sameD, hl, hs]
      | _ => exact absurd hh (by simp only [hdS]; decide +kernel)
    | none => cases d2 with
      | none => simp [sameD]
      | bool b =>
        simp only [Ink] at h1 h2
        subst h1
        cases b <;> exact absurd h2 (by simp; decide +kernel)
      | _ => exact absurd hh (by simp only [hdS]; decide +kernel)
    | bool a => cases d2 with
      | none =>
        simp only [Ink] at h1 h2
        subst h1
        cases a <;> exact absurd h2 (by simp; decide +kernel)
      | bool b =>
        simp only [Ink] at h1 h2
        subst h1
        cases a <;> cases b <;> first | (simp [sameD]; done) | exact absurd h2 (by simp; decide +kernel)
      | _ => exact absurd hh (by simp only [hdS]; decide +kernel)
    | str a => cases d2 with
      | str b =>
        simp only [Ink] at h1 h2
        subst h1
        simp at h2
        simp [sameD, h2]
      | _ => exact absurd hh (by simp only [hdS]; decide +kernel)
    | int a => cases d2 with
      | int b =>
        simp only [Ink] at h1 h2
        subst h1
        simp at h2
        simp [sameD, h2]
      | _ => exact absurd hh (by simp only [hdS]; decide +kernel)
theorem ink_of_same {B : Nat} : ∀ (n : Nat) (d1 d2 t1 t2 : PyData), d1.depth < n → okD B d1 = true → okD B d2 = true → isDoc d1 = true → isDoc d2 = true → Ink d1 t1 → Ink d2 t2 → sameD d1 d2 = true → t1 = t2
  | 0, _, _, _, _, h, _, _, _, _, _, _, _ => absurd h (Nat.not_lt_zero _)
  | n + 1, d1, d2, t1, t2, hn, o1, o2, c1, c2, h1, h2, hs => by
    cases d1 with
    | tuple ds => simp [isDoc] at c1
    | list ds => cases d2 with
      | list es =>
        simp only [Ink] at h1 h2
        obtain ⟨ts, rfl, i1⟩ := h1
        obtain ⟨ts2, rfl, i2⟩ := h2
        simp only [sameD, Bool.and_eq_true, decide_eq_true_eq] at hs
        simp only [okD, Bool.and_eq_true, decide_eq_true_eq] at o1 o2
        simp only [PyData.depth] at hn
        rw [isDoc] at c1 c2
        obtain ⟨hl, hs⟩ := hs
        rw [sameL_all hl, all_range] at hs
        have e : ts = ts2 := by
          apply List.ext_getElem
          · rw [inkL_len i1, inkL_len i2, hl]
          · intro i hi hi2
            have hi1 : i < ds.length := by rw [← inkL_len i1]; exact hi
            have hi3 : i < es.length := by omega
            have e1 : ds[i]? = some ds[i] := List.getElem?_eq_getElem hi1
            have e2 : es[i]? = some es[i] := List.getElem?_eq_getElem hi3
            have q := hs i hi1
            rw [List.getD_eq_getElem?_getD, e1, List.getD_eq_getElem?_getD, e2] at q
            obtain ⟨q1, q2⟩ := okL_get o1.2 (List.getElem_mem hi1)
            obtain ⟨q3, q4⟩ := okL_get o2.2 (List.getElem_mem hi3)
            exact ink_of_same n _ _ _ _ (by omega) q1 q3 (docL_get c1 (List.getElem_mem hi1)) (docL_get c2 (List.getElem_mem hi3)) (inkL_get i1 e1 (List.getElem?_eq_getElem hi)) (inkL_get i2 e2 (List.getElem?_eq_getElem hi2)) q
        rw [e]
      | _ => simp [sameD] at hs
    | dict ds => cases d2 with
      | dict es =>
        simp only [Ink] at h1 h2
        obtain ⟨ys, us, pm, srt, ul, rfl, i1⟩ := h1
        obtain ⟨zs, vs, pm2, srt2, vl, rfl, i2⟩ := h2
        simp only [sameD, Bool.and_eq_true, decide_eq_true_eq] at hs
        simp only [okD, Bool.and_eq_true, decide_eq_true_eq] at o1 o2
        simp only [PyData.depth] at hn
        rw [isDoc] at c1 c2
        obtain ⟨hl, hs⟩ := hs
        rw [sameK_all, List.all_map, List.all_eq_true] at hs
        have kp : (keyS ds).Perm (keyS es) := by
          refine perm_sub (keyS_nodup o1.1.2) (fun x hx => ?_) (by rw [keyS_len c1, keyS_len c2]; omega)
          obtain ⟨d, m⟩ := keyS_mem.mp hx
          obtain ⟨e, le, _⟩ := sameOne_get (hs _ m)
          exact keyS_mem.mpr ⟨e, look_mem le⟩
        have ey : ys = zs := sorted_one (pm.trans (kp.trans pm2.symm)) srt srt2
        subst ey
        have eu : us = vs := by
          apply List.ext_getElem
          · rw [ul, vl]
          · intro i hi hi2
            have hi1 : i < ys.length := by omega
            have e1 : ys[i]? = some ys[i] := List.getElem?_eq_getElem hi1
            obtain ⟨d, m, ik⟩ := inkK_get (i1 i _ _ e1 (List.getElem?_eq_getElem hi))
            obtain ⟨e, m2, ik2⟩ := inkK_get (i2 i _ _ e1 (List.getElem?_eq_getElem hi2))
            obtain ⟨e', le, sm⟩ := sameOne_get (hs _ m)
            rw [nd_look o2.1.2 m2] at le
            cases le
            obtain ⟨q1, q2, q3⟩ := okK_get o1.2 m
            obtain ⟨q4, q5, q6⟩ := okK_get o2.2 m2
            exact ink_of_same n _ _ _ _ (by omega) q2 q5 (docK_get c1 m).2 (docK_get c2 m2).2 ik ik2 sm
        rw [eu]
      | _ => simp [sameD] at hs
    | none => cases d2 <;> simp [sameD] at hs <;> (simp only [Ink] at h1 h2; rw [h1, h2])
    | bool a => cases d2 <;> simp [sameD] at hs <;> (simp only [Ink] at h1 h2; subst hs; rw [h1, h2])
    | str a => cases d2 <;> simp [sameD] at hs <;> (simp only [Ink] at h1 h2; subst hs; rw [h1, h2])
    | int a => cases d2 <;> simp [sameD] at hs <;> (simp only [Ink] at h1 h2; subst hs; rw [h1, h2])
end K00
end
section
set_option Elab.async false
set_option linter.all false
set_option maxRecDepth 100000
set_option maxHeartbeats 4000000
set_option pp.maxSteps 1000
namespace K00
open PySem PySem.Spec PyProof.Rows L2 Tg
mutual
def tupS : PyData → Bool
  | .str x => PyData.strOk x
  | .int _ => true
  | .tuple ts => tupL ts
  | _ => false
def tupL : List PyData → Bool
  | [] => true
  | t :: ts => tupS t && tupL ts
end
theorem tupL_all : ∀ {ts : List PyData}, (∀ t ∈ ts, tupS t = true) → tupL ts = true
  | [], _ => rfl
  | t :: ts, h => by rw [tupL, h t List.mem_cons_self, tupL_all fun u hu => h u (List.mem_cons_of_mem _ hu)]; rfl
theorem depthAll_le {m : Nat} : ∀ {ts : List PyData}, (∀ t ∈ ts, t.depth ≤ m) → PyData.depthAll ts ≤ m
  | [], _ => Nat.zero_le _
  | t :: ts, h => by
    have h1 := h t List.mem_cons_self
    have h2 := depthAll_le fun u hu => h u (List.mem_cons_of_mem _ hu)
    simp only [PyData.depthAll]
    omega
mutual
theorem tup_lay : ∀ {t : PyData}, tupS t = true → t.canLay0 = true
  | .str x, h => by simpa [tupS, PyData.canLay0] using h
  | .int _, _ => by simp [PyData.canLay0]
  | .tuple ts, h => by
    simp only [PyData.canLay0]
    exact tup_layL (by simpa [tupS] using h)
  | .none, h => by simp [tupS] at h
  | .bool _, h => by simp [tupS] at h
  | .list _, h => by simp [tupS] at h
  | .dict _, h => by simp [tupS] at h
theorem tup_layL : ∀ {ts : List PyData}, tupL ts = true → PyData.canLayAll0 ts = true
  | [], _ => by simp [PyData.canLayAll0]
  | t :: ts, h => by
    simp only [tupL, Bool.and_eq_true] at h
    simp only [PyData.canLayAll0, Bool.and_eq_true]
    exact ⟨tup_lay h.1, tup_layL h.2⟩
end
mutual
theorem tup_eqv : ∀ {t u : PyData}, tupS t = true → tupS u = true → (PyData.eqv t u = true ↔ t = u)
  | .str x, u, h, k => by cases u <;> simp [PyData.eqv, tupS] at h k ⊢
  | .int x, u, h, k => by cases u <;> simp [PyData.eqv, tupS] at h k ⊢
  | .tuple ts, u, h, k => by
    cases u with
    | tuple us =>
      simp only [tupS] at h k
      simp only [PyData.eqv, PyData.tuple.injEq]
      exact tup_eqvL h k
    | _ => simp [PyData.eqv, tupS] at h k ⊢
  | .none, u, h, k => by simp [tupS] at h
  | .bool _, u, h, k => by simp [tupS] at h
  | .list _, u, h, k => by simp [tupS] at h
  | .dict _, u, h, k => by simp [tupS] at h
theorem tup_eqvL : ∀ {ts us : List PyData}, tupL ts = true → tupL us = true → (PyData.eqvAll ts us = true ↔ ts = us)
  | [], [], _, _ => by simp [PyData.eqvAll]
  | [], _ :: _, _, _ => by simp [PyData.eqvAll]
  | _ :: _, [], _, _ => by simp [PyData.eqvAll]
  | t :: ts, u :: us, h, k => by
    simp only [tupL, Bool.and_eq_true] at h k
    simp only [PyData.eqvAll, Bool.and_eq_true, List.cons.injEq]
    rw [tup_eqv h.1 k.1, tup_eqvL h.2 k.2]
end
mutual
theorem tup_dp {K : PySem.W.Frag} {H : Hp} : ∀ {t : PyData} {v : V}, tupS t = true → Rp H t v → Dp K H v t
  | .str x, v, h, r => by simp only [Rp] at r; subst r; exact .str x
  | .int x, v, h, r => by simp only [Rp] at r; subst r; exact .int x
  | .tuple ts, v, h, r => by
    simp only [Rp] at r
    obtain ⟨a, xs, rfl, ha, rl⟩ := r
    exact .tup (SqT.of ha) (tup_dpL (by simpa [tupS] using h) rl)
  | .none, v, h, r => by simp [tupS] at h
  | .bool _, v, h, r => by simp [tupS] at h
  | .list _, v, h, r => by simp [tupS] at h
  | .dict _, v, h, r => by simp [tupS] at h
theorem tup_dpL {K : PySem.W.Frag} {H : Hp} : ∀ {ts : List PyData} {vs : List V}, tupL ts = true → RpL H ts vs → DpAll K H vs ts
  | [], vs, h, r => by simp only [RpL] at r; subst r; exact .nil
  | t :: ts, vs, h, r => by
    simp only [RpL] at r
    obtain ⟨x, l, rfl, r1, r2⟩ := r
    simp only [tupL, Bool.and_eq_true] at h
    exact .cons (tup_dp h.1 r1) (tup_dpL h.2 r2)
end
theorem pairs_get : ∀ {ys : List Str} {us : List PyData} {t : PyData}, t ∈ pairs ys us → ∃ (i : Nat) (y : Str) (u : PyData), ys[i]? = some y ∧ us[i]? = some u ∧ t = .tuple [.str y, u]
  | [], us, t, h => by simp [pairs] at h
  | y :: ys, [], t, h => by simp [pairs] at h
  | y :: ys, u :: us, t, h => by
    simp only [pairs, List.zipWith_cons_cons, List.mem_cons] at h
    rcases h with rfl | h
    · exact ⟨0, y, u, rfl, rfl, rfl⟩
    · obtain ⟨i, y', u', h1, h2, h3⟩ := pairs_get (ys := ys) (us := us) h
      exact ⟨i + 1, y', u', by simpa using h1, by simpa using h2, h3⟩
theorem ink_tup {B : Nat} : ∀ (n : Nat) (d t : PyData), d.depth < n → okD B d = true → isDoc d = true → Ink d t → tupS t = true ∧ t.depth ≤ 2 * d.depth + 1
  | 0, _, _, h, _, _, _ => absurd h (Nat.not_lt_zero _)
  | n + 1, d, t, hn, o, c, h => by
    have w : ∀ x : Str, PyData.strOk x = true → tupS (.str x) = true := fun x hx => by simpa [tupS] using hx
    cases d with
    | tuple ds => simp [isDoc] at c
    | list ds =>
      simp only [Ink] at h
      obtain ⟨ts, rfl, i⟩ := h
      simp only [okD, Bool.and_eq_true, decide_eq_true_eq] at o
      simp only [PyData.depth] at hn ⊢
      rw [isDoc] at c
      have ih : ∀ t ∈ ts, tupS t = true ∧ t.depth ≤ 2 * PyData.depthAll ds + 1 := fun t ht => by
        obtain ⟨j, hj, e⟩ := List.mem_iff_getElem.mp ht
        have hj2 : j < ds.length := by rw [← inkL_len i]; exact hj
        obtain ⟨q1, q2⟩ := okL_get o.2 (List.getElem_mem hj2)
        obtain ⟨r1, r2⟩ := ink_tup n ds[j] t (by omega) q1 (docL_get c (List.getElem_mem hj2)) (inkL_get i (List.getElem?_eq_getElem hj2) (by rw [List.getElem?_eq_getElem hj, e]))
        exact ⟨r1, by omega⟩
      refine ⟨?_, ?_⟩
      · simp only [tupS, tupL, Bool.and_eq_true]
        exact ⟨by decide +kernel, tupL_all fun t ht => (ih t ht).1⟩
      · have := depthAll_le fun t ht => (ih t ht).2
        simp only [PyData.depthAll, PyData.depth]
        omega
    | dict ds =>
      simp only [Ink] at h
      obtain ⟨ys, us, pm, srt, ul, rfl, i⟩ := h
      simp only [okD, Bool.and_eq_true, decide_eq_true_eq] at o
      simp only [PyData.depth] at hn ⊢
      rw [isDoc] at c
      have ih : ∀ t ∈ pairs ys us, tupS t = true ∧ t.depth ≤ 2 * PyData.depthKv ds + 2 := fun t ht => by
        obtain ⟨j, y, u, e1, e2, rfl⟩ := pairs_get ht
        obtain ⟨d, m, ik⟩ := inkK_get (i j y u e1 e2)
        obtain ⟨q1, q2, q3⟩ := okK_get o.2 m
        obtain ⟨r1, r2⟩ := ink_tup n d u (by omega) q2 (docK_get c m).2 ik
        refine ⟨?_, ?_⟩
        · simp only [okD, decide_eq_true_eq] at q1
          simp only [tupS, tupL, Bool.and_eq_true, Bool.and_true]
          exact ⟨q1.2.1, r1⟩
        · simp only [PyData.depthAll, PyData.depth]
          omega
      refine ⟨?_, ?_⟩
      · simp only [tupS, tupL, Bool.and_eq_true]
        exact ⟨by decide +kernel, tupL_all fun t ht => (ih t ht).1⟩
      · have := depthAll_le fun t ht => (ih t ht).2
        simp only [PyData.depthAll, PyData.depth]
        omega
    | none =>
      simp only [Ink] at h
      subst h
      exact ⟨by decide +kernel, by decide +kernel⟩
    | bool b =>
      simp only [Ink] at h
      subst h
      cases b <;> exact ⟨by decide +kernel, by decide +kernel⟩
    | int j =>
      simp only [Ink] at h
      subst h
      refine ⟨?_, by simp [PyData.depth, PyData.depthAll]⟩
      simp only [tupS, tupL, Bool.and_true]
      decide +kernel
    | str x =>
      simp only [Ink] at h
      subst h
      simp only [okD, decide_eq_true_eq] at o
      refine ⟨?_, by simp [PyData.depth, PyData.depthAll]⟩
      simp only [tupS, tupL, Bool.and_true, Bool.and_eq_true]
      exact ⟨by decide +kernel, o.2.1⟩
/-- two inks are equal just if the documents are the same -/
theorem ink_eq {B n : Nat} {d1 d2 t1 t2 : PyData} (p1 : d1.depth < n) (p2 : d2.depth < n) (hn : n ≤ 20) (o1 : okD B d1 = true) (o2 : okD B d2 = true) (c1 : isDoc d1 = true) (c2 : isDoc d2 = true) (h1 : Ink d1 t1) (h2 : Ink d2 t2) :
    SeqAt.shaped t1 = true ∧ SeqAt.shaped t2 = true ∧ PyData.eqv t1 t2 = sameD d1 d2 ∧ tupS t1 = true ∧ tupS t2 = true := by
  obtain ⟨a1, b1⟩ := ink_tup n d1 t1 p1 o1 c1 h1
  obtain ⟨a2, b2⟩ := ink_tup n d2 t2 p2 o2 c2 h2
  refine ⟨?_, ?_, ?_, a1, a2⟩
  · unfold SeqAt.shaped
    rw [tup_lay a1, decide_eq_true (by omega)]
    rfl
  · unfold SeqAt.shaped
    rw [tup_lay a2, decide_eq_true (by omega)]
    rfl
  · rw [Bool.eq_iff_iff, tup_eqv a1 a2]
    constructor
    · rintro rfl
      exact same_of_ink n d1 d2 t1 p1 o1 o2 c1 c2 h1 h2
    · exact ink_of_same n d1 d2 t1 t2 p1 o1 o2 c1 c2 h1 h2
end K00
end
section
set_option Elab.async false
set_option linter.all false
set_option maxRecDepth 100000
set_option maxHeartbeats 4000000
set_option pp.maxSteps 1000
/-! dicts that are laid key by key, on the side of the data -/
namespace K00
open PySem PySem.Spec PyProof.Rows L2 Tg
def isK (x : Str) : PyData → Bool
  | .str y => decide (y = x)
  | _ => false
def putS (kds : List (PyData × PyData)) (x : Str) (d : PyData) : List (PyData × PyData) :=
  if (kds.any fun p => isK x p.1) = true then kds.map (fun p => if isK x p.1 = true then (p.1, d) else p) else kds ++ [(.str x, d)]
def mergeS (kds : List (PyData × PyData)) (more : List (Str × PyData)) : List (PyData × PyData) := more.foldl (fun acc p => putS acc p.1 p.2) kds
theorem isK_iff {x : Str} {k : Key} : isK x (kD k) = decide (k = .inr x) := by
  cases k with
  | inl i => simp [isK, kD]
  | inr y => simp [isK, kD]
theorem rpD_any {H : Hp} {x : Str} : ∀ {kds : List (PyData × PyData)} {kvs : List (Key × V)}, RpD H kds kvs → (kds.any fun p => isK x p.1) = (kvs.any fun kv => decide (kv.1 = .inr x))
  | [], kvs, r => by simp only [RpD] at r; subst r; rfl
  | (k, d) :: kds, kvs, r => by
    simp only [RpD] at r
    obtain ⟨ky, v, l, rfl, rfl, r1, r2⟩ := r
    simp only [List.any_cons, rpD_any r2, isK_iff]
theorem rpD_map {H : Hp} {x : Str} {d : PyData} {v : V} (rd : Rp H d v) : ∀ {kds : List (PyData × PyData)} {kvs : List (Key × V)}, RpD H kds kvs → RpD H (kds.map (fun p => if isK x p.1 = true then (p.1, d) else p)) (kvs.map (fun kv => if kv.1 = .inr x then (kv.1, v) else kv))
  | [], kvs, r => by simp only [RpD] at r; subst r; exact RpD.nil
  | (k, e) :: kds, kvs, r => by
    simp only [RpD] at r
    obtain ⟨ky, u, l, rfl, rfl, r1, r2⟩ := r
    have ih := rpD_map (x := x) rd r2
    simp only [List.map_cons, isK_iff, decide_eq_true_eq]
    by_cases q : ky = .inr x
    · rw [if_pos q, if_pos q]
      exact RpD.cons rd ih
    · rw [if_neg q, if_neg q]
      exact RpD.cons r1 ih
theorem rpD_app {H : Hp} : ∀ {kds es : List (PyData × PyData)} {kvs ls : List (Key × V)}, RpD H kds kvs → RpD H es ls → RpD H (kds ++ es) (kvs ++ ls)
  | [], es, kvs, ls, r, k => by simp only [RpD] at r; subst r; exact k
  | (ky, e) :: kds, es, kvs, ls, r, k => by
    simp only [RpD] at r
    obtain ⟨ky, u, l, rfl, rfl, r1, r2⟩ := r
    exact RpD.cons r1 (rpD_app r2 k)
theorem rpD_put {H : Hp} {kds : List (PyData × PyData)} {kvs : List (Key × V)} {x : Str} {d : PyData} {v : V} (r : RpD H kds kvs) (rd : Rp H d v) : RpD H (putS kds x d) (putK kvs (.inr x) v) := by
  unfold putS putK
  rw [rpD_any (x := x) r]
  split
  · exact rpD_map rd r
  · exact rpD_app r (RpD.cons (k := .inr x) rd RpD.nil)
def strP (more : List (Str × PyData)) : List (PyData × PyData) := more.map fun p => (.str p.1, p.2)
theorem rpD_merge {H : Hp} : ∀ {more : List (Str × PyData)} {kds : List (PyData × PyData)} {kvs ms : List (Key × V)}, RpD H kds kvs → RpD H (strP more) ms → RpD H (mergeS kds more) (mergeK kvs ms)
  | [], kds, kvs, ms, r, m => by
    simp only [strP, List.map_nil, RpD] at m
    subst m
    exact r
  | (x, d) :: more, kds, kvs, ms, r, m => by
    simp only [strP, List.map_cons, RpD] at m
    obtain ⟨ky, v, l, rfl, ek, r1, r2⟩ := m
    have : ky = .inr x := by
      cases ky with
      | inl i => simp [kD] at ek
      | inr y => simp [kD] at ek; rw [ek]
    subst this
    exact rpD_merge (more := more) (kds := putS kds x d) (kvs := putK kvs (.inr x) v) (rpD_put r r1) r2
theorem mem_putS {kds : List (PyData × PyData)} {x : Str} {d k e : PyData} (h : (k, e) ∈ putS kds x d) : (k, e) ∈ kds ∨ (k = .str x ∧ e = d) := by
  unfold putS at h
  split at h
  · obtain ⟨⟨k', e'⟩, m, q⟩ := List.mem_map.mp h
    by_cases hk : isK x k' = true
    · simp only [hk, if_true] at q
      cases q
      refine .inr ⟨?_, rfl⟩
      cases k <;> simp [isK] at hk ⊢
      exact hk
    · simp only [hk] at q
      cases q
      exact .inl m
  · rcases List.mem_append.mp h with h | h
    · exact .inl h
    · cases List.mem_singleton.mp h
      exact .inr ⟨rfl, rfl⟩
theorem mem_mergeS : ∀ {more : List (Str × PyData)} {kds : List (PyData × PyData)} {k e : PyData}, (k, e) ∈ mergeS kds more → (k, e) ∈ kds ∨ ∃ x, k = .str x ∧ (x, e) ∈ more
  | [], kds, k, e, h => .inl h
  | (x, d) :: more, kds, k, e, h => by
    rcases mem_mergeS (more := more) (kds := putS kds x d) h with h | ⟨y, h1, h2⟩
    · rcases mem_putS h with h | ⟨rfl, rfl⟩
      · exact .inl h
      · exact .inr ⟨x, rfl, List.mem_cons_self⟩
    · exact .inr ⟨y, h1, List.mem_cons_of_mem _ h2⟩
theorem putS_len {kds : List (PyData × PyData)} {x : Str} {d : PyData} : (putS kds x d).length ≤ kds.length + 1 := by
  unfold putS
  split
  · rw [List.length_map]
    omega
  · rw [List.length_append]
    exact Nat.le_refl _
theorem mergeS_len : ∀ {more : List (Str × PyData)} {kds : List (PyData × PyData)}, (mergeS kds more).length ≤ kds.length + more.length
  | [], kds => Nat.le_refl _
  | (x, d) :: more, kds => by
    have h1 := mergeS_len (more := more) (kds := putS kds x d)
    have h2 := putS_len (kds := kds) (x := x) (d := d)
    show (mergeS (putS kds x d) more).length ≤ _
    simp only [List.length_cons]
    omega
theorem any_keyS {x : Str} : ∀ {kds : List (PyData × PyData)}, (kds.any fun p => isK x p.1) = true ↔ x ∈ keyS kds
  | [] => by simp [keyS]
  | (k, d) :: r => by
    rw [List.any_cons, Bool.or_eq_true, any_keyS (kds := r)]
    cases k <;> simp [keyS, isK]
    exact or_congr eq_comm Iff.rfl
theorem keyS_map {x : Str} {d : PyData} : ∀ {kds : List (PyData × PyData)}, keyS (kds.map (fun p => if isK x p.1 = true then (p.1, d) else p)) = keyS kds
  | [] => rfl
  | (k, e) :: r => by
    rw [List.map_cons]
    by_cases q : isK x k = true
    · simp only [q, if_true]
      cases k <;> simp [keyS, keyS_map (kds := r)]
    · simp only [q]
      cases k <;> simp [keyS, keyS_map (kds := r)]
theorem keyS_app : ∀ {a b : List (PyData × PyData)}, keyS (a ++ b) = keyS a ++ keyS b
  | [], b => rfl
  | (k, e) :: r, b => by
    rw [List.cons_append]
    cases k <;> simp [keyS, keyS_app (a := r)]
theorem nd_of : ∀ {kds : List (PyData × PyData)}, (keyS kds).Nodup → ndK kds = true
  | [], _ => rfl
  | (k, d) :: r, h => by
    cases k with
    | str x =>
      simp only [keyS, List.nodup_cons] at h
      simp only [ndK, Bool.and_eq_true, Option.isNone_iff_eq_none]
      refine ⟨?_, nd_of h.2⟩
      cases q : lookS x r with
      | none => rfl
      | some e => exact absurd (keyS_mem.mpr ⟨e, look_mem q⟩) h.1
    | _ => exact nd_of (kds := r) h
theorem nd_put {kds : List (PyData × PyData)} {x : Str} {d : PyData} (h : ndK kds = true) : ndK (putS kds x d) = true := by
  apply nd_of
  have h1 := keyS_nodup h
  unfold putS
  split
  · rw [keyS_map]
    exact h1
  · rename_i q
    rw [any_keyS] at q
    rw [keyS_app]
    refine List.nodup_append.mpr ⟨h1, by simp [keyS], fun a ha b hb => ?_⟩
    simp [keyS] at hb
    subst hb
    exact fun z => q (z ▸ ha)
theorem nd_merge : ∀ {more : List (Str × PyData)} {kds : List (PyData × PyData)}, ndK kds = true → ndK (mergeS kds more) = true
  | [], _, h => h
  | (x, d) :: more, kds, h => nd_merge (more := more) (nd_put h)
theorem okL_of {B : Nat} : ∀ {ds : List PyData}, (∀ d ∈ ds, okD B d = true) → okL B ds = true
  | [], _ => rfl
  | d :: ds, h => by rw [okL, h d List.mem_cons_self, okL_of fun e he => h e (List.mem_cons_of_mem _ he)]; rfl
theorem docL_of : ∀ {ds : List PyData}, (∀ d ∈ ds, isDoc d = true) → isDocL ds = true
  | [], _ => rfl
  | d :: ds, h => by rw [isDocL, h d List.mem_cons_self, docL_of fun e he => h e (List.mem_cons_of_mem _ he)]; rfl
theorem okK_of {B : Nat} : ∀ {ds : List (PyData × PyData)}, (∀ k d, (k, d) ∈ ds → okD 0 k = true ∧ okD B d = true) → okK B ds = true
  | [], _ => rfl
  | (k, d) :: ds, h => by
    obtain ⟨h1, h2⟩ := h k d List.mem_cons_self
    rw [okK, h1, h2, okK_of fun k e he => h k e (List.mem_cons_of_mem _ he)]
    rfl
theorem docK_of : ∀ {ds : List (PyData × PyData)}, (∀ k d, (k, d) ∈ ds → isNm k = true ∧ isDoc d = true) → isDocK ds = true
  | [], _ => rfl
  | (k, d) :: ds, h => by
    obtain ⟨h1, h2⟩ := h k d List.mem_cons_self
    rw [isDocK, h1, h2, docK_of fun k e he => h k e (List.mem_cons_of_mem _ he)]
    rfl
theorem depthKv_le {m : Nat} : ∀ {ds : List (PyData × PyData)}, (∀ k d, (k, d) ∈ ds → k.depth ≤ m ∧ d.depth ≤ m) → PyData.depthKv ds ≤ m
  | [], _ => Nat.zero_le _
  | (k, d) :: ds, h => by
    obtain ⟨h1, h2⟩ := h k d List.mem_cons_self
    have h3 := depthKv_le fun k e he => h k e (List.mem_cons_of_mem _ he)
    simp only [PyData.depthKv]
    omega
/-- data within bounds; q: a document -/
structure Gd (B n : Nat) (q : Bool) (d : PyData) : Prop where
  ok : okD B d = true
  dp : d.depth ≤ n
  dc : q = true → isDoc d = true
theorem Gd.up {B n m : Nat} {q : Bool} {d : PyData} (g : Gd B n q d) (h : n ≤ m) : Gd B m q d := ⟨g.ok, Nat.le_trans g.dp h, g.dc⟩
theorem Gd.weak {B n : Nat} {q : Bool} {d : PyData} (g : Gd B n true d) : Gd B n q d := ⟨g.ok, g.dp, fun _ => g.dc rfl⟩
theorem Gd.list {B n : Nat} {q : Bool} {ds : List PyData} (hl : ds.length ≤ B) (h : ∀ d ∈ ds, Gd B n q d) : Gd B (n + 1) q (.list ds) := by
  refine ⟨?_, ?_, fun hq => ?_⟩
  · simp only [okD, Bool.and_eq_true, decide_eq_true_eq]
    exact ⟨hl, okL_of fun d hd => (h d hd).ok⟩
  · have := depthAll_le fun d hd => (h d hd).dp
    simp only [PyData.depth]
    omega
  · rw [isDoc]
    exact docL_of fun d hd => (h d hd).dc hq
def nmOk (q : Bool) (x : Str) : Prop := okD 0 (.str x) = true ∧ (q = true → isNm (.str x) = true)
theorem Gd.dict {B n : Nat} {q : Bool} {kds : List (PyData × PyData)} (hl : kds.length ≤ B) (nd : ndK kds = true) (h : ∀ k d, (k, d) ∈ kds → ∃ x, k = .str x ∧ nmOk q x ∧ Gd B n q d) : Gd B (n + 1) q (.dict kds) := by
  refine ⟨?_, ?_, fun hq => ?_⟩
  · simp only [okD, Bool.and_eq_true, decide_eq_true_eq]
    exact ⟨⟨hl, nd⟩, okK_of fun k d m => by obtain ⟨x, rfl, h1, h2⟩ := h k d m; exact ⟨h1.1, h2.ok⟩⟩
  · have := depthKv_le (m := n) (ds := kds) fun k d m => by obtain ⟨x, rfl, h1, h2⟩ := h k d m; exact ⟨by simp [PyData.depth], h2.dp⟩
    simp only [PyData.depth]
    omega
  · rw [isDoc]
    exact docK_of fun k d m => by obtain ⟨x, rfl, h1, h2⟩ := h k d m; exact ⟨h1.2 hq, h2.dc hq⟩
theorem Gd.merge {B n : Nat} {q : Bool} {kds : List (PyData × PyData)} {more : List (Str × PyData)} (hl : kds.length + more.length ≤ B) (nd : ndK kds = true) (h : ∀ k d, (k, d) ∈ kds → ∃ x, k = .str x ∧ nmOk q x ∧ Gd B n q d)
    (h2 : ∀ x d, (x, d) ∈ more → nmOk q x ∧ Gd B n q d) : Gd B (n + 1) q (.dict (mergeS kds more)) := by
  refine Gd.dict (Nat.le_trans mergeS_len hl) (nd_merge nd) fun k d m => ?_
  rcases mem_mergeS m with m | ⟨x, rfl, m2⟩
  · exact h k d m
  · exact ⟨x, rfl, h2 x d m2⟩
/-- a list of new pairs -/
theorem tups_of {K : PySem.W.Frag} {H : Hp} {Pd : Str → PyData → Prop} : ∀ {xs : List V}, (∀ (i : Nat) v, xs[i]? = some v → ∃ a x u d, v = .ref a ∧ H a = some (.tup [.str x, u]) ∧ Rp H d u ∧ Pd x d) →
    ∃ (ps : List Addr) (kvs : List (Key × V)) (more : List (Str × PyData)), xs = ps.map V.ref ∧ Paired (fun p kv => SqT K H p [kV kv.1, kv.2]) ps kvs ∧ RpD H (strP more) kvs ∧ more.length = xs.length ∧ ∀ x d, (x, d) ∈ more → Pd x d
  | [], _ => ⟨[], [], [], rfl, .nil, RpD.nil, rfl, fun x d z => by simp at z⟩
  | x :: xs, h => by
    obtain ⟨a, z, u, d, rfl, ha, rd, pd⟩ := h 0 x rfl
    obtain ⟨ps, kvs, more, e, p, r, l, q⟩ := tups_of (K := K) (xs := xs) fun i v hv => h (i + 1) v (by simpa using hv)
    refine ⟨a :: ps, (.inr z, u) :: kvs, (z, d) :: more, by rw [e]; rfl, .cons (SqT.of ha) p, RpD.cons (k := .inr z) rd r, by simp [l], fun y e m => ?_⟩
    rcases List.mem_cons.mp m with m | m
    · cases m
      exact pd
    · exact q y e m
end K00
end
section
set_option Elab.async false
set_option linter.all false
set_option maxRecDepth 100000
set_option maxHeartbeats 4000000
set_option pp.maxSteps 700
namespace K00
open PySem PySem.Spec PyProof.Rows L2 Tg
local macro_rules | `(tactic| walk_at "c") => `(tactic| first | assumption | trivial | omega | (constructor <;> omega) | decide | exact len_ok (Nat.le_of_ble_eq_true rfl))
local macro_rules | `(tactic| walk_at "sq") => `(tactic| first | exact SqL.of (by assumption) | exact SqL.of upd_same | assumption | exact SqT.of (by assumption) | exact SqT.of upd_same | exact .inl (SqL.of (by assumption)) | exact .inr (SqT.of (by assumption)))
local macro_rules | `(tactic| walk_at "r1") => `(tactic| first
  | refine ⟨_, rfl, ?_⟩
  | refine ⟨_, _, rfl, rfl, ?_⟩
  | refine .inl ⟨_, rfl, ?_⟩
  | refine .inr ⟨_, rfl, ?_⟩
  | (apply Exists.intro; apply Exists.intro; apply Exists.intro; apply Exists.intro; refine And.intro rfl (And.intro rfl (And.intro ?sq ?_)); (case sq => walk_at "sq"); refine And.intro rfl ?_)
  | (apply Exists.intro; apply Exists.intro; apply Exists.intro; apply Exists.intro; refine And.intro rfl (And.intro rfl (And.intro ?hp ?_)); (case hp => first | assumption | exact upd_same); refine And.intro rfl ?_)
  | (refine And.intro ?c ?_; (case c => walk_at "c")))
local macro_rules | `(tactic| walk_at "r") => `(tactic| repeat walk_at "r1")
theorem PotAt.up {H : Hp} {p : Addr} {c c' : Int} (h : PotAt H p c) (l : c ≤ c') : PotAt H p c' := by
  obtain ⟨x, y, z, e, a, b, d, f, g⟩ := h.ex
  exact ⟨x, y, z, e, a, b, d, f, by omega⟩
theorem PotAt.same {H H' : Hp} {p : Addr} {c : Int} (h : PotAt H p c) (s : Same H H') : PotAt H' p c := by
  obtain ⟨x, y, z, e, r⟩ := h.ex
  exact ⟨x, y, z, s _ _ e, r⟩
theorem kp_but {H H' : Hp} {p : Addr} {c : Int} (h : PotAt H p c) (b : But p H H') : Kp H H' := by
  obtain ⟨x, y, z, e, r⟩ := h.ex
  exact ⟨fun a o u q => b a _ (ne_of q e (fun z => nomatch z)) q, fun a xs q => b a _ (ne_of q e (fun z => nomatch z)) q⟩
theorem PotAt.ne {H : Hp} {p q : Addr} {c : Int} (h : PotAt H p c) (n : H q = none) : q ≠ p := by
  rintro rfl
  obtain ⟨x, y, z, e, r⟩ := h.ex
  rw [n] at e
  cases e
theorem PotAt.put {H : Hp} {p q : Addr} {c : Int} {o : HO} (h : PotAt H p c) (n : q ≠ p) : PotAt (upd H q o) p c := by
  obtain ⟨x, y, z, e, r⟩ := h.ex
  exact ⟨x, y, z, by rw [upd_ne (Ne.symm n)]; exact e, r⟩
theorem but_put {H1 H : Hp} {p D : Addr} {o : HO} (nD : H1 D = none) (s : But p H1 H) : But p H1 (upd H D o) := fun b u n e => by
  rw [upd_ne (ne_of_none e nD)]
  exact s _ _ n e
theorem cut_to {xs : List V} {i : Int} (h0 : 0 ≤ i) (h1 : i < xs.length) : cutV xs none (some i) = xs.take i.toNat := by
  unfold cutV
  have e : HT.sIx xs.length xs.length (some i) = i.toNat := by
    show (if i < 0 then _ else min i.toNat xs.length) = _
    rw [if_neg (by omega)]
    omega
  rw [e, HT.sIx_none]
  simp
theorem cut_from {xs : List V} {i : Int} (h0 : 0 ≤ i) (h1 : i ≤ xs.length) : cutV xs (some i) none = xs.drop i.toNat := by
  unfold cutV
  have e : HT.sIx xs.length 0 (some i) = i.toNat := by
    show (if i < 0 then _ else min i.toNat xs.length) = _
    rw [if_neg (by omega)]
    omega
  rw [e, HT.sIx_none, List.take_of_length_le (by rw [List.length_drop]; omega)]
def spUnlike (K : PySem.W.Frag) : Sp := fun vs H Q _ => ∃ (p l : Addr) (c m : Int) (xs : List V), vs = [.ref p, .ref l, .int m] ∧ PotAt H p c ∧ c + 10 < 1000000 ∧ SqL K H l xs ∧ l ≠ p ∧ xs.length ≤ 10 ∧ 0 ≤ m ∧ m ≤ 10 ∧
  ∀ (H' : Hp) (f : Addr) (ys : List V), But p H H' → PotAt H' p (c + m) → H f = none → H' f = some (.lst ys) → (ys.length : Int) ≤ m → (∀ y ∈ ys, y ∈ xs) → Q (.ref f) H'
section
variable {P : Program} {w : World} {K : PySem.W.Frag} {mg : Str → Option Value} {base : Heap}
theorem ok_unlike (T : Tx P K mg) : FnOk P w K mg base CX0 2 T.a__law_unlike T.fd__law_unlike ["_law_pot", "_law_some", "_law_many"] (spUnlike K) := by
  have G__law_take := ok_take (w := w) (base := base) T
  refine T.F__law_unlike.ok sc__law_unlike (fun vs H Q E h => ?_) (fun cdv A outer s H vs Q E hr h => ?_)
  · obtain ⟨p, l, c, m, xs, rfl, _⟩ := h
    rfl
  obtain ⟨p, l, c, m, xs, rfl, hp, hc, hl, nl, hz, m0, m1, k⟩ := h
  refine ⟨_, (pss_cons (ps_par (i := 3) (j := 4) (by rfl) sc__law_unlike.nd rfl rfl (by decide) rfl rfl (pa_cons (pe_callTy call_list_of (by rfl) T.n_list PyProof.Rows.Boot.«list» (pa_cons (pv 1) pa_nil)) (pa_cons (pe_lst pa_nil) pa_nil)) (by rfl))
      (pss_cons (ps_for PassesOwn.never rfl (pi_range1 (by rfl) T.n_range (pa_cons (pe_callB (call_min2 rfl) (by rfl) T.n_min PyProof.Rows.Boot.«min» (pa_cons (pv 2) (pa_cons (pe_callB call_len (by rfl) T.n_len PyProof.Rows.Boot.«len» (pa_cons (pv 3) pa_nil)) pa_nil))) pa_nil)) (pg_name (i := 5) sc__law_unlike.nd rfl (Or.inl rfl)) (pss_cons (ps_set (i := 6) sc__law_unlike.nd rfl (Or.inl rfl) (pe_call G__law_take (hr.mono (by first | decide | omega)) (by rfl) T.m__law_take T.F__law_take.kp T.b__law_take .nil pass0 (pa_cons (pv 0) (pa_cons (pe_callB call_len (by rfl) T.n_len PyProof.Rows.Boot.«len» (pa_cons (pv 3) pa_nil)) pa_nil))))
      (pss_cons (ps_expr (pe_bm PySem.F.plainAttrs_list PySem.F.slot_list_append PySem.F.type_list_append mt_append (pv 4) (pa_cons (pe_ix ix_list (pv 3) (pv 6) (fun _ _ => rfl)) pa_nil)))
      (pss_one (ps_set (i := 3) sc__law_unlike.nd rfl (Or.inl rfl) (pe_op op_cat (pe_slice sl_list (pv 3) po_none (po_some (pv 6))) (pe_slice sl_list (pv 3) (po_some (pe_op op_add (pv 6) pe_int)) po_none)))))))
      (pss_one (ps_ret (pv 4))))), ?_⟩
  refine ⟨_, rfl, l, xs, rfl, .inl hl, fun L nL => ⟨len_ok (Nat.zero_le _), fun F nF => ⟨_, _, rfl, ?_⟩⟩⟩
  have nFL : F ≠ L := by
    rintro rfl
    rw [upd_same] at nF
    cases nF
  have nF0 : H F = none := by
    rw [upd_ne nFL] at nF
    exact nF
  have Lp := hp.ne nL
  have Fp := hp.ne nF0
  have hL : (upd (upd H L (.lst xs)) F (.lst [])) L = some (.lst xs) := by rw [upd_ne (Ne.symm nFL), upd_same]
  have hF : (upd (upd H L (.lst xs)) F (.lst [])) F = some (.lst []) := upd_same
  have b0 : But p H (upd (upd H L (.lst xs)) F (.lst [])) := but_put nF0 (but_put nL But.refl)
  have hp0 : PotAt (upd (upd H L (.lst xs)) F (.lst [])) p c := (hp.put Lp).put Fp
  change tSeq _ _ _ _ (upd (upd H L (.lst xs)) F (.lst []))
  generalize upd (upd H L (.lst xs)) F (.lst []) = H0 at hL hF b0 hp0 ⊢
  have hj : ∃ j : Nat, (if (xs.length : Int) < m then (xs.length : Int) else m) = (j : Int) ∧ (j : Int) ≤ m ∧ j ≤ xs.length := by
    by_cases q : (xs.length : Int) < m
    · exact ⟨xs.length, by rw [if_pos q], by omega, Nat.le_refl _⟩
    · exact ⟨m.toNat, by rw [if_neg q]; omega, by omega, by omega⟩
  obtain ⟨j, ej, j1, j2⟩ := hj
  refine ⟨_, rfl, _, rfl, _, _, rfl, .inl ⟨_, SqL.of hL, rfl⟩, _, _, rfl, _, rfl, ?_, ?_, ?_⟩
  · show _ ≤ (if (xs.length : Int) < m then (xs.length : Int) else m)
    rw [ej]
    omega
  · show (if (xs.length : Int) < m then (xs.length : Int) else m) < _
    rw [ej]
    omega

  have ej2 : (if (xs.length : Int) < m then (xs.length : Int) else m).toNat = j := by rw [ej]; omega
  rw [ej2]
  refine for_it walk_range (fun i σ H1 => ∃ (L : Addr) (ls ys : List V) (x5 x6 : Option V), σ = [some (.ref p), some (.ref l), some (.int m), some (.ref L), some (.ref F), x5, x6] ∧ But p H H1 ∧ PotAt H1 p (c + i) ∧ H1 L = some (.lst ls) ∧ H L = none ∧ H1 F = some (.lst ys) ∧ L ≠ F ∧
      ys.length = i ∧ ls.length + i = xs.length ∧ (∀ y ∈ ys, y ∈ xs) ∧ ∀ y ∈ ls, y ∈ xs) ⟨L, xs, [], none, none, rfl, b0, by simpa using hp0, hL, nL, hF, Ne.symm nFL, rfl, rfl, (fun y hy => absurd hy List.not_mem_nil), fun y hy => hy⟩ (fun _ _ _ _ _ => trivial) ?_ ?_
  · rintro i x σ H1 H2 hi ⟨L, ls, ys, x5, x6, rfl, b1, hp1, hL1, nL, hF1, nLF, yl, ll, ym, lm⟩ ⟨rfl, rfl⟩
    have Lp := hp.ne nL
    refine ⟨_, rfl, _, rfl, _, _, rfl, .inl ⟨_, SqL.of hL1, rfl⟩, p, c + i, _, rfl, hp1, by omega, by omega, by omega, fun H2 r b2 hp2 r0 r1 => ?_⟩
    have hL2 := b2 _ _ Lp hL1
    have hF2 := b2 _ _ Fp hF1
    obtain ⟨v, hv, hm⟩ := atI_mem r0 r1
    refine ⟨_, rfl, .inl ⟨rfl, _, SqL.of hF2⟩, _, rfl, _, rfl, L, _, _, _, rfl, rfl, SqL.of hL2, hv, F, _, _, rfl, rfl, hF2, by rw [sizeLine_eq]; omega, ?_⟩
    have hF3 : (upd H2 F (.lst (ys ++ [v]))) F = some (.lst (ys ++ [v])) := upd_same
    have hL3 : (upd H2 F (.lst (ys ++ [v]))) L = some (.lst ls) := by rw [upd_ne nLF]; exact hL2
    have b3 : But p H (upd H2 F (.lst (ys ++ [v]))) := but_put nF0 (b1.trans b2)
    have hp3 : PotAt (upd H2 F (.lst (ys ++ [v]))) p (c + i + 1) := hp2.put Fp
    generalize upd H2 F (.lst (ys ++ [v])) = H3 at hF3 hL3 b3 hp3 ⊢
    refine ⟨_, rfl, _, rfl, _, rfl, L, ls, rfl, SqL.of hL3, fun q1 nq1 => ?_⟩
    rw [cut_to r0 r1]
    have s4 : Same H3 (upd H3 q1 (.lst (ls.take r.toNat))) := same_new nq1
    refine ⟨_, rfl, ⟨_, rfl, _, _, rfl, rfl, _, rfl, L, ls, rfl, SqL.of (s4 _ _ hL3), fun q2 nq2 => ?_⟩⟩
    rw [cut_from (by omega) (by omega)]
    have s5 : Same (upd H3 q1 (.lst (ls.take r.toNat))) (upd (upd H3 q1 (.lst (ls.take r.toNat))) q2 (.lst (ls.drop (r + 1).toNat))) := same_new nq2
    refine ⟨q1, q2, _, _, rfl, rfl, s5 _ _ upd_same, upd_same, ?_, fun q3 nq3 => ?_⟩
    · rw [List.length_take, List.length_drop, sizeLine_eq]
      omega
    have s6 := s4.trans (s5.trans (same_new (o := .lst (ls.take r.toNat ++ ls.drop (r + 1).toNat)) nq3))
    have nq30 : H3 q3 = none := by
      cases z : H3 q3 with
      | none => rfl
      | some o => rw [(s4.trans s5) _ _ z] at nq3; cases nq3
    have q3F : q3 ≠ F := by
      rintro rfl
      rw [nq30] at hF3
      cases hF3
    have nq3H : H q3 = none := by
      cases z : H q3 with
      | none => rfl
      | some o => rw [b3 _ _ (hp3.ne nq30) z] at nq30; cases nq30
    refine ⟨q3, _, _, _, _, rfl, b3.trans (But.same s6), ?_, upd_same, nq3H, s6 _ _ hF3, q3F, ?_, ?_, ?_, ?_⟩
    · have e : c + ((i + 1 : Nat) : Int) = c + i + 1 := by omega
      rw [e]
      exact hp3.same s6
    · rw [List.length_append, yl]
      rfl
    · rw [List.length_append, List.length_take, List.length_drop]
      omega
    · intro y hy
      rcases List.mem_append.mp hy with hy | hy
      · exact ym y hy
      · cases List.mem_singleton.mp hy
        exact lm v hm
    · intro y hy
      rcases List.mem_append.mp hy with hy | hy
      · exact lm y (List.mem_of_mem_take hy)
      · exact lm y (List.mem_of_mem_drop hy)
  · rintro σ H1 ⟨L, ls, ys, x5, x6, rfl, b1, hp1, hL1, nL, hF1, nLF, yl, ll, ym, lm⟩
    exact ⟨_, rfl, k H1 F ys b1 (hp1.up (by omega)) nF0 hF1 (by omega) ym⟩
end
end K00
end
section
set_option Elab.async false
set_option linter.all false
set_option maxRecDepth 100000
set_option maxHeartbeats 4000000
set_option pp.maxSteps 700
namespace K00
open PySem PySem.Spec PyProof.Rows L2 Tg
local macro_rules | `(tactic| walk_at "c") => `(tactic| first | assumption | trivial | omega | (constructor <;> omega) | decide | exact len_ok (Nat.le_of_ble_eq_true rfl))
local macro_rules | `(tactic| walk_at "sq") => `(tactic| first | exact SqL.of (by assumption) | exact SqL.of upd_same | assumption | exact SqT.of (by assumption) | exact SqT.of upd_same | exact .inl (SqL.of (by assumption)) | exact .inr (SqT.of (by assumption)))
local macro_rules | `(tactic| walk_at "r1") => `(tactic| first
  | refine ⟨_, rfl, ?_⟩
  | refine ⟨_, _, rfl, rfl, ?_⟩
  | refine .inl ⟨_, rfl, ?_⟩
  | refine .inr ⟨_, rfl, ?_⟩
  | (apply Exists.intro; apply Exists.intro; apply Exists.intro; apply Exists.intro; refine And.intro rfl (And.intro rfl (And.intro ?sq ?_)); (case sq => walk_at "sq"); refine And.intro rfl ?_)
  | (apply Exists.intro; apply Exists.intro; apply Exists.intro; apply Exists.intro; refine And.intro rfl (And.intro rfl (And.intro ?hp ?_)); (case hp => first | assumption | exact upd_same); refine And.intro rfl ?_)
  | (refine And.intro ?c ?_; (case c => walk_at "c")))
local macro_rules | `(tactic| walk_at "r") => `(tactic| repeat walk_at "r1")
mutual
theorem ok_mono {B C : Nat} (h : B ≤ C) : ∀ {d : PyData}, okD B d = true → okD C d = true
  | .none, _ => rfl
  | .bool _, _ => rfl
  | .int _, k => k
  | .str _, k => k
  | .list ds, k => by
    simp only [okD, Bool.and_eq_true, decide_eq_true_eq] at k ⊢
    exact ⟨by omega, ok_monoL h k.2⟩
  | .tuple ds, k => by
    simp only [okD, Bool.and_eq_true, decide_eq_true_eq] at k ⊢
    exact ⟨by omega, ok_monoL h k.2⟩
  | .dict ds, k => by
    simp only [okD, Bool.and_eq_true, decide_eq_true_eq] at k ⊢
    exact ⟨⟨by omega, k.1.2⟩, ok_monoK h k.2⟩
theorem ok_monoL {B C : Nat} (h : B ≤ C) : ∀ {d : List PyData}, okL B d = true → okL C d = true
  | [], _ => rfl
  | d :: ds, k => by
    simp only [okL, Bool.and_eq_true] at k ⊢
    exact ⟨ok_mono h k.1, ok_monoL h k.2⟩
theorem ok_monoK {B C : Nat} (h : B ≤ C) : ∀ {d : List (PyData × PyData)}, okK B d = true → okK C d = true
  | [], _ => rfl
  | (a, d) :: ds, k => by
    simp only [okK, Bool.and_eq_true] at k ⊢
    exact ⟨⟨k.1.1, ok_mono h k.1.2⟩, ok_monoK h k.2⟩
end
theorem Gd.wide {B C n : Nat} {q : Bool} {d : PyData} (g : Gd B n q d) (h : B ≤ C) : Gd C n q d := ⟨ok_mono h g.ok, g.dp, g.dc⟩
def gdB (B n : Nat) (q : Bool) (d : PyData) : Bool := okD B d && decide (d.depth ≤ n) && (!q || isDoc d)
theorem gdB_ok {B n : Nat} {q : Bool} {d : PyData} (h : gdB B n q d = true) : Gd B n q d := by
  unfold gdB at h
  simp only [Bool.and_eq_true, decide_eq_true_eq, Bool.or_eq_true, Bool.not_eq_true'] at h
  refine ⟨h.1.1, h.1.2, fun hq => ?_⟩
  rcases h.2 with z | z
  · rw [hq] at z
    cases z
  · exact z
/-- the value of flat data -/
def vD : PyData → V
  | .bool b => .bl b
  | .int i => .int i
  | .str x => .str x
  | _ => .non
def flD : PyData → Bool
  | .none | .bool _ | .int _ | .str _ => true
  | _ => false
theorem rp_flat {H : Hp} : ∀ {d : PyData}, flD d = true → Rp H d (vD d)
  | .none, _ => Rp.non
  | .bool _, _ => Rp.bl
  | .int _, _ => Rp.int
  | .str _, _ => Rp.str
  | .list _, h => by cases h
  | .tuple _, h => by cases h
  | .dict _, h => by cases h
def flats : List PyData := [.none, .bool true, .bool false, .int 0, .int 1, .int (-1), .int 2, .int 3, .str "a", .str "b", .str "one", .str "two", .str "none", .str "x", .str "zz", .str "", .str "Q 1", .str "q\"\\"]
def spFlat : Sp := fun vs H Q _ => ∃ (p : Addr) (c : Int), vs = [.ref p] ∧ PotAt H p c ∧ c + 1 < 1000000 ∧ ∀ (H' : Hp) (v : V) (d : PyData), But p H H' → PotAt H' p (c + 1) → Rp H' d v → Gd 3 0 true d → Q v H'
section
variable {P : Program} {w : World} {K : PySem.W.Frag} {mg : Str → Option Value} {base : Heap}
theorem ok_flat (T : Tx P K mg) : FnOk P w K mg base CX0 3 T.a__law_flat T.fd__law_flat ["_law_pot"] spFlat := by
  have G__law_of := ok_of (w := w) (base := base) T
  refine T.F__law_flat.ok sc__law_flat (fun vs H Q E h => ?_) (fun cdv A outer s H vs Q E hr h => ?_)
  · obtain ⟨p, c, rfl, _⟩ := h
    rfl
  obtain ⟨p, c, rfl, hp, hc, k⟩ := h
  refine ⟨_, (pss_cons (ps_set (i := 1) sc__law_flat.nd rfl (Or.inl rfl) (pe_lst (pa_cons pe_non (pa_cons pe_bl (pa_cons pe_bl (pa_cons pe_int (pa_cons pe_int (pa_cons (pe_un un_neg pe_int) (pa_cons pe_int (pa_cons pe_int (pa_cons pe_str (pa_cons pe_str (pa_cons pe_str (pa_cons pe_str (pa_cons pe_str (pa_cons pe_str (pa_cons pe_str (pa_cons pe_str (pa_cons pe_str pa_nil)))))))))))))))))))
      (pss_one (ps_ret (pe_call G__law_of (hr.mono (by first | decide | omega)) (by rfl) T.m__law_of T.F__law_of.kp T.b__law_of .nil pass0 (pa_cons (pv 0) (pa_cons (pe_op op_cat (pv 1) (pe_lst (pa_cons pe_str pa_nil))) pa_nil)))))), ?_⟩
  walk_at "r"
  intro l1 n1
  obtain ⟨H1, e1, s1, h1⟩ := g_mut (xs := (flats.take 17).map vD) n1
  have e1' : upd H l1 (.lst [.non, .bl true, .bl false, .int 0, .int 1, .int (-1), .int 2, .int 3, .str "a", .str "b", .str "one", .str "two", .str "none", .str "x", .str "zz", .str "", .str "Q 1"]) = H1 := e1
  rw [e1']
  walk_at "r"
  intro l2 n2
  obtain ⟨H2, e2, s2, h2⟩ := g_mut (xs := [.str "q\"\\"]) n2
  rw [e2]
  refine ⟨l1, l2, _, _, rfl, rfl, s2 _ _ h1, h2, by show 18 ≤ sizeLine; decide, fun l3 n3 => ?_⟩
  have s3 : Same H2 (upd H2 l3 (.lst (flats.map vD))) := same_new n3
  have hp2 := hp.same (s1.trans s2)
  refine ⟨p, l3, c, flats.map vD, rfl, hp2.same s3, by omega, SqL.of upd_same, hp2.ne n3, by simp [flats], by simp [flats], fun H' v b3 hp3 hm => ?_⟩
  obtain ⟨d, md, rfl⟩ := List.mem_map.mp hm
  have fl : ∀ d ∈ flats, flD d = true ∧ gdB 3 0 true d = true := by
    have : (flats.all fun d => flD d && gdB 3 0 true d) = true := by decide +kernel
    intro d hd
    have q := List.all_eq_true.mp this d hd
    simpa [Bool.and_eq_true] using q
  exact k H' _ d ((But.same (s1.trans (s2.trans s3))).trans b3) hp3 (rp_flat (fl d md).1) (gdB_ok (fl d md).2)
def fa : Nat → Nat
  | 0 => 1
  | n + 1 => 10 + 3 * fa n
def spAny : Nat → Sp
  | 0 => fun _ _ _ _ => False
  | n + 1 => fun vs H Q _ => ∃ (p : Addr) (c : Int), vs = [.ref p, .int n] ∧ PotAt H p c ∧ c + fa n < 1000000 ∧ ∀ (H' : Hp) (v : V) (d : PyData), But p H H' → PotAt H' p (c + fa n) → Rp H' d v → Gd 3 n true d → Q v H'
theorem fa_pos : ∀ n, 1 ≤ fa n
  | 0 => Nat.le_refl _
  | n + 1 => by simp only [fa]; omega
theorem any_step (T : Tx P K mg) {n : Nat} (G__law_any : FnOk P w K mg base CX0 (n + 4) T.a__law_any T.fd__law_any ["_law_pot", "_law_deep"] (spAny n)) : FnOk P w K mg base CX0 (n + 5) T.a__law_any T.fd__law_any ["_law_pot", "_law_deep"] (spAny (n + 1)) := by
  have G__law_take := ok_take (w := w) (base := base) T
  have G__law_flat := ok_flat (w := w) (base := base) T
  have G__law_unlike := ok_unlike (w := w) (base := base) T
  refine T.F__law_any.ok sc__law_any (fun vs H Q E h => ?_) (fun cdv A outer s H vs Q E hr h => ?_)
  · obtain ⟨p, c, rfl, _⟩ := h
    rfl
  obtain ⟨p, c, rfl, hp, hc, k⟩ := h
  refine ⟨_, (pss_cons (ps_set (i := 2) sc__law_any.nd rfl (Or.inl rfl) (pe_ifExp (pt_cmpR op_gt (pv 1) pe_int (nomark _)) (pe_call G__law_take (hr.mono (by first | decide | omega)) (by rfl) T.m__law_take T.F__law_take.kp T.b__law_take .nil pass0 (pa_cons (pv 0) (pa_cons pe_int pa_nil))) pe_int))
      (pss_cons (ps_if (pt_cmpR op_lt (pv 2) pe_int (nomark _)) (pss_one (ps_ret (pe_call G__law_flat (hr.mono (by first | decide | omega)) (by rfl) T.m__law_flat T.F__law_flat.kp T.b__law_flat .nil pass0 (pa_cons (pv 0) pa_nil)))) pss_nil)
      (pss_cons (ps_if (pt_cmpR op_eq (pv 2) pe_int (nomark _)) (pss_one (ps_ret (pe_fz (pe_lc (own := [("_law_turn", 4)]) (g := gName 4) (tt := tYes) (by rfl) sc__law_any.nd (pi_range1 (by rfl) T.n_range (pa_cons (pe_call G__law_take (hr.mono (by first | decide | omega)) (by rfl) T.m__law_take T.F__law_take.kp T.b__law_take .nil pass0 (pa_cons (pv 0) (pa_cons pe_int pa_nil))) pa_nil)) (blkOk_by (own := [("_law_turn", 4)]) (N := ["_law_pot", "_law_deep", "_law_pick", "_law_fields", "_law_turn", "_law_field"]) (sc := defScope s__law_any) (by decide +kernel)) (fun _ _ _ _ _ => (pg_name (i := 4) sc__law_any.nd rfl (Or.inl rfl))) (fun _ _ _ _ _ => pts_nil) (fun _ _ _ _ _ => (pe_call G__law_any (hr.mono (by first | decide | omega)) (by rfl) T.m__law_any T.F__law_any.kp T.b__law_any .nil pass0 (pa_cons (pv 0) (pa_cons (pe_op op_sub (pv 1) pe_int) pa_nil)))))))) pss_nil)
      (pss_cons (ps_set (i := 3) sc__law_any.nd rfl (Or.inl rfl) (pe_call G__law_unlike (hr.mono (by first | decide | omega)) (by rfl) T.m__law_unlike T.F__law_unlike.kp T.b__law_unlike .nil pass0 (pa_cons (pv 0) (pa_cons (pe_lst (pa_cons pe_str (pa_cons pe_str (pa_cons pe_str (pa_cons pe_str pa_nil))))) (pa_cons (pe_call G__law_take (hr.mono (by first | decide | omega)) (by rfl) T.m__law_take T.F__law_take.kp T.b__law_take .nil pass0 (pa_cons (pv 0) (pa_cons pe_int pa_nil))) pa_nil)))))
      (pss_one (ps_ret (pe_fz (pe_callTy (call_dictP rfl) (by rfl) T.n_dict PyProof.Rows.Boot.«dict» (pa_cons (pe_lc (own := [("_law_field", 5)]) (g := gName 5) (tt := tYes) (by rfl) sc__law_any.nd (pi_list (pv 3)) (blkOk_by (own := [("_law_field", 5)]) (N := ["_law_pot", "_law_deep", "_law_pick", "_law_fields", "_law_turn", "_law_field"]) (sc := defScope s__law_any) (by decide +kernel)) (fun _ _ _ _ _ => (pg_name (i := 5) sc__law_any.nd rfl (Or.inl rfl))) (fun _ _ _ _ _ => pts_nil) (fun _ _ _ _ _ => (pe_tup (pa_cons (pv 5) (pa_cons (pe_call G__law_any (hr.mono (by first | decide | omega)) (by rfl) T.m__law_any T.F__law_any.kp T.b__law_any .nil pass0 (pa_cons (pv 0) (pa_cons (pe_op op_sub (pv 1) pe_int) pa_nil))) pa_nil))))) pa_nil))))))))), ?_⟩
  have h1 := fa_pos n
  refine ⟨_, rfl, _, _, rfl, rfl, _, rfl, ?_⟩
  cases n with
  | zero =>
    refine iF ⟨_, rfl, _, _, rfl, rfl, _, rfl, iT ⟨_, rfl, p, c, rfl, hp, hc, fun H' v d b hp' r g => k H' v d b hp' r g⟩⟩
  | succ n =>
    have hfa : fa (n + 1) = 10 + 3 * fa n := rfl
    have h0 := fa_pos n
    have em : ((n + 1 : Nat) : Int) - 1 = (n : Int) := by omega
    refine ite2 (fun hb => ?_) fun hb => absurd (decide_eq_true (by omega)) hb
    refine ⟨_, rfl, p, c, 4, rfl, hp, by omega, by decide, by decide, fun H1 r b1 hp1 r0 r1 => ?_⟩
    refine ⟨_, rfl, _, _, rfl, rfl, _, rfl, ite2 (fun hz => ?_) fun hz => ?_⟩
    · refine ⟨_, rfl, p, c + 1, rfl, hp1, by omega, fun H' v d b hp' r g => k H' v d (b1.trans b) (hp'.up (by omega)) r (g.up (by omega))⟩
    refine ⟨_, rfl, rfl, _, rfl, ite2 (fun hz => ?_) fun hz => ?_⟩
    · refine ⟨_, rfl, p, c + 1, 3, rfl, hp1, by omega, by decide, by decide, fun H2 r2 b2 hp2 q0 q1 => ⟨_, rfl, by omega, by omega, fun D nD => ?_⟩⟩
      have Dp := hp2.ne nD
      have b2a : But p H H2 := b1.trans b2
      have nD0 : H D = none := by
        cases z : H D with
        | none => rfl
        | some o => rw [b2a _ _ Dp z] at nD; cases nD
      refine lc_gen walk_range (fun i H3 => But p H H3 ∧ PotAt H3 p (c + 2 + ((i * fa n : Nat) : Int))) (fun i v H3 => ∃ d, Gd 3 n true d ∧ Rp H3 d v) (fun i H3 xs ys a _ => ⟨but_put nD0 a.1, a.2.put Dp⟩) (fun i v H2 H3 ⟨t, i1, r1⟩ kp => ⟨t, i1, r1.keep kp⟩) (by omega)
        ⟨but_put nD0 b2a, by rw [Nat.zero_mul]; exact (hp2.put Dp).up (by omega)⟩ (fun _ _ _ _ => trivial) ?_ ?_
      · rintro i x H3 H4 acc hi ⟨b3, hp3⟩ hD ⟨rfl, rfl⟩ Qc kc
        have hi2 : i ≤ 2 := by omega
        have him : i * fa n ≤ 2 * fa n := Nat.mul_le_mul_right _ hi2
        refine ⟨rfl, _, rfl, _, rfl, _, _, rfl, rfl, p, c + 2 + ((i * fa n : Nat) : Int), ?_, hp3, by omega, fun H5 v d b5 hp5 r5 g5 => ?_⟩
        · show [V.ref p, V.int (((n + 1 : Nat) : Int) - 1)] = _
          rw [em]
        · refine kc v H5 (b5 _ _ Dp hD) (kp_but hp3 b5) ⟨b3.trans b5, ?_⟩ ⟨d, g5, r5⟩
          rw [Nat.succ_mul]
          exact hp5.up (by omega)
      · rintro H3 xs ⟨b3, hp3⟩ hD hl hr3
        obtain ⟨ds, rds, lds, gds⟩ := rpL_of hr3
        refine ⟨D, _, rfl, hD, True.intro, fun o => ?_⟩
        have kp : Kp H3 (upd H3 D (.frz o (.lst xs))) := Kp.put hD (fun _ _ z => nomatch z) (fun _ z => nomatch z)
        have him : r2.toNat * fa n ≤ 2 * fa n := Nat.mul_le_mul_right _ (by omega)
        refine k _ _ (.list ds) (but_put nD0 b3) ((hp3.put Dp).up (by omega)) (Rp.lst upd_same (RpL.keep kp _ _ rds)) (Gd.list (by omega) fun d hd => ?_)
        obtain ⟨i, hi, e⟩ := List.mem_iff_getElem.mp hd
        exact gds i d (by rw [List.getElem?_eq_getElem hi, e])
    · refine ⟨_, rfl, len_ok (by show 4 ≤ 1000; decide), fun l nl => ?_⟩
      have s1 : Same H1 (upd H1 l (.lst [.str "x", .str "y", .str "k", .str "q"])) := same_new nl
      have hl : (upd H1 l (.lst [.str "x", .str "y", .str "k", .str "q"])) l = some (.lst [.str "x", .str "y", .str "k", .str "q"]) := upd_same
      have nlp := hp1.ne nl
      change tCons _ _ _ (upd H1 l (.lst [.str "x", .str "y", .str "k", .str "q"])) _
      generalize upd H1 l (.lst [.str "x", .str "y", .str "k", .str "q"]) = H2 at s1 hl ⊢
      have hp2 := hp1.same s1
      refine ⟨_, rfl, p, c + 1, 3, rfl, hp2, by omega, by decide, by decide, fun H3 r3 b3 hp3 q0 q1 => ?_⟩
      refine ⟨p, l, c + 1 + 1, r3, _, rfl, hp3, by omega, SqL.of (b3 _ _ nlp hl), nlp, by decide, q0, by omega, fun H4 f ys b4 hp4 nf hf yl ym => ?_⟩
      have fp := hp3.ne nf
      have b4a : But p H H4 := b1.trans ((But.same s1).trans (b3.trans b4))
      refine ⟨_, rfl, f, rfl, ⟨ys, SqL.of hf⟩, fun D nD => ?_⟩
      have Dp := hp4.ne nD
      have nD0 : H D = none := by
        cases z : H D with
        | none => rfl
        | some o => rw [b4a _ _ Dp z] at nD; cases nD
      have Df : D ≠ f := by
        rintro rfl
        rw [hf] at nD
        cases nD
      refine lc_gen (walk_list (xs := ys)) (fun i H5 => But p H H5 ∧ PotAt H5 p (c + 4 + ((i * fa n : Nat) : Int)) ∧ H5 f = some (.lst ys)) (fun i v H5 => ∃ a x u d, v = .ref a ∧ H5 a = some (.tup [.str x, u]) ∧ Rp H5 d u ∧ (nmOk true x ∧ Gd 3 n true d))
        (fun i H5 xs ys a _ => ⟨but_put nD0 a.1, a.2.1.put Dp, by rw [upd_ne (Ne.symm Df)]; exact a.2.2⟩) (fun i v H2 H3 ⟨a, x, u, d, h1, h2, h3, h4⟩ kp => ⟨a, x, u, d, h1, kp.tu _ _ h2, h3.keep kp, h4⟩) (by omega)
        ⟨but_put nD0 b4a, by rw [Nat.zero_mul]; exact (hp4.put Dp).up (by omega), by rw [upd_ne (Ne.symm Df)]; exact hf⟩ (fun _ H5 _ a => SqL.of a.2.2) ?_ ?_
      · rintro i x H5 H6 acc hi ⟨b5, hp5, hf5⟩ hD ⟨rfl, hx⟩ Qc kc
        have hi2 : i ≤ 2 := by omega
        have him : i * fa n ≤ 2 * fa n := Nat.mul_le_mul_right _ hi2
        refine ⟨rfl, _, rfl, _, rfl, _, rfl, _, _, rfl, rfl, p, c + 4 + ((i * fa n : Nat) : Int), ?_, hp5, by omega, fun H7 v d b7 hp7 r7 g7 => ⟨len_ok (by show 2 ≤ 1000; decide), fun t nt => ?_⟩⟩
        · show [V.ref p, V.int (((n + 1 : Nat) : Int) - 1)] = _
          rw [em]
        · have s8 : Same H7 (upd H7 t (.tup [x, v])) := same_new nt
          have hx2 : ∃ z : Str, x = .str z ∧ nmOk true z := by
            have m := ym x (List.mem_of_getElem? hx)
            simp only [List.mem_cons, List.not_mem_nil, or_false] at m
            rcases m with rfl | rfl | rfl | rfl <;> exact ⟨_, rfl, by decide +kernel, fun _ => by decide +kernel⟩
          obtain ⟨z, rfl, nz⟩ := hx2
          refine kc _ _ (s8 _ _ (b7 _ _ Dp hD)) ((kp_but hp5 b7).trans (Kp.same s8)) ⟨b5.trans (b7.trans (But.same s8)), ?_, s8 _ _ (b7 _ _ fp hf5)⟩ ⟨t, z, v, d, rfl, upd_same, r7.same s8, nz, g7⟩
          rw [Nat.succ_mul]
          exact (hp7.same s8).up (by omega)
      · rintro H5 xs ⟨b5, hp5, hf5⟩ hD hl5 hr5
        obtain ⟨ps, kvs, more, rfl, pr, rm, lm, gm⟩ := tups_of (K := K) hr5
        refine ⟨D, ps, kvs, rfl, SqL.of hD, pr, fun q nq => ⟨q, _, rfl, upd_same, True.intro, fun o => ?_⟩⟩
        have qp := hp5.ne nq
        have nq0 : H q = none := by
          cases z : H q with
          | none => rfl
          | some o => rw [b5 _ _ qp z] at nq; cases nq
        have kp : Kp H5 (upd (upd H5 q (.dK (mergeK [] kvs))) q (.frz o (.dK (mergeK [] kvs)))) := by
          rw [upd_upd]
          exact Kp.new nq
        have him : ys.length * fa n ≤ 2 * fa n := Nat.mul_le_mul_right _ (by omega)
        refine k _ _ (.dict (mergeS [] more)) (but_put nq0 (but_put nq0 b5)) (((hp5.put qp).put qp).up (by omega)) (Rp.dct upd_same (RpD.keep kp _ _ (rpD_merge RpD.nil rm))) (Gd.merge (by simp only [List.length_nil]; omega) rfl (fun k d m => by simp at m) fun x d m => gm x d m)
theorem ok_any (T : Tx P K mg) : ∀ n : Nat, FnOk P w K mg base CX0 (n + 4) T.a__law_any T.fd__law_any ["_law_pot", "_law_deep"] (spAny n)
  | 0 => ⟨fun vs H Q E h => h.elim, fun A outer s H args us vs Q E hr e0 hb r h => h.elim⟩
  | n + 1 => any_step T (ok_any T n)
end
end K00
end
section
set_option Elab.async false
set_option linter.all false
set_option maxRecDepth 100000
set_option maxHeartbeats 4000000
set_option pp.maxSteps 700
namespace K00
open PySem PySem.Spec PyProof.Rows L2 Tg
local macro_rules | `(tactic| walk_at "c") => `(tactic| first | assumption | trivial | omega | (constructor <;> omega) | decide | exact len_ok (Nat.le_of_ble_eq_true rfl))
local macro_rules | `(tactic| walk_at "sq") => `(tactic| first | exact SqL.of (by assumption) | exact SqL.of upd_same | assumption | exact SqT.of (by assumption) | exact SqT.of upd_same | exact .inl (SqL.of (by assumption)) | exact .inr (SqT.of (by assumption)))
local macro_rules | `(tactic| walk_at "r1") => `(tactic| first
  | refine ⟨_, rfl, ?_⟩
  | refine ⟨_, _, rfl, rfl, ?_⟩
  | refine .inl ⟨_, rfl, ?_⟩
  | refine .inr ⟨_, rfl, ?_⟩
  | (apply Exists.intro; apply Exists.intro; apply Exists.intro; apply Exists.intro; refine And.intro rfl (And.intro rfl (And.intro ?sq ?_)); (case sq => walk_at "sq"); refine And.intro rfl ?_)
  | (apply Exists.intro; apply Exists.intro; apply Exists.intro; apply Exists.intro; refine And.intro rfl (And.intro rfl (And.intro ?hp ?_)); (case hp => first | assumption | exact upd_same); refine And.intro rfl ?_)
  | (refine And.intro ?c ?_; (case c => walk_at "c")))
local macro_rules | `(tactic| walk_at "r") => `(tactic| repeat walk_at "r1")
def go : Nat → Nat
  | 0 => 20
  | n + 1 => 20 + 4 * go n
theorem go_pos : ∀ n, 20 ≤ go n
  | 0 => Nat.le_refl _
  | n + 1 => by simp only [go]; omega
def spOdd : Nat → Sp
  | 0 => fun _ _ _ _ => False
  | n + 1 => fun vs H Q _ => ∃ (p : Addr) (c : Int), vs = [.ref p, .int n] ∧ PotAt H p c ∧ c + go n < 1000000 ∧ ∀ (H' : Hp) (v : V) (d : PyData), But p H H' → PotAt H' p (c + go n) → Rp H' d v → Gd 3 (n + 1) false d → Q v H'
theorem g_none {H : Hp} {p : Addr} {o : Obj} (n : H p = none) (no : NonO o) (sm : (p == sysModules) = false) : ∃ H1, upd (upd H p (.dK [])) p (.frz o (NDh p o)) = H1 ∧ Same H H1 ∧ Rp H1 (.dict [(.none, .int 1)]) (.ref p) :=
  ⟨_, rfl, same_upd2 n, by
    simp only [Rp]
    exact .inr ⟨trivial, p, o, rfl, upd_same, no, sm⟩⟩
theorem g_d1 {H : Hp} {p : Addr} {o : Obj} {k : Key} {i : Int} (n : H p = none) : ∃ H1, upd (upd (upd H p (.dK [])) p (.dK (mergeK [] [(k, .int i)]))) p (.frz o (.dK (mergeK [] [(k, .int i)]))) = H1 ∧ Same H H1 ∧ Rp H1 (.dict [(kD k, .int i)]) (.ref p) :=
  g_dct1 n (Same.refl _) Rp.int
section
variable {P : Program} {w : World} {K : PySem.W.Frag} {mg : Str → Option Value} {base : Heap}
theorem odd_step (T : Tx P K mg) {n : Nat} (G__law_odd : FnOk P w K mg base CX0 (n + 7) T.a__law_odd T.fd__law_odd ["_law_pot", "_law_deep"] (spOdd n)) : FnOk P w K mg base CX0 (n + 8) T.a__law_odd T.fd__law_odd ["_law_pot", "_law_deep"] (spOdd (n + 1)) := by
  have G__law_take := ok_take (w := w) (base := base) T
  have G__law_of := ok_of (w := w) (base := base) T
  have G__law_any := ok_any (w := w) (base := base) T 2
  have G__law_unlike := ok_unlike (w := w) (base := base) T
  refine T.F__law_odd.ok sc__law_odd (fun vs H Q E h => ?_) (fun cdv A outer s H vs Q E hr h => ?_)
  · obtain ⟨p, c, rfl, _⟩ := h
    rfl
  obtain ⟨p, c, rfl, hp, hc, k⟩ := h
  refine ⟨_, (pss_cons (ps_set (i := 2) sc__law_odd.nd rfl (Or.inl rfl) (pe_call G__law_take (hr.mono (by first | decide | omega)) (by rfl) T.m__law_take T.F__law_take.kp T.b__law_take .nil pass0 (pa_cons (pv 0) (pa_cons pe_int pa_nil))))
      (pss_cons (ps_if (pt_cmpR op_eq (pv 2) pe_int (nomark _)) (pss_cons (ps_set (i := 3) sc__law_odd.nd rfl (Or.inl rfl) (pe_lst (pa_cons (pe_tup pa_nil) (pa_cons (pe_tup (pa_cons pe_int pa_nil)) (pa_cons (pe_fz (pe_disp (pps_cons pe_int pe_int pps_nil) (by rfl) (by rfl) (fun z => by cases z) (by decide))) (pa_cons (pe_fz (pe_disp (pps_cons pe_str pe_int pps_nil) (by rfl) (by rfl) (fun z => by cases z) (by decide))) (pa_cons (pe_fz (pe_disp (pps_cons pe_str pe_int pps_nil) (by rfl) (by rfl) (fun z => by cases z) (by decide))) (pa_cons (pe_fz (pe_disp (pps_cons pe_str pe_int pps_nil) (by rfl) (by rfl) (fun z => by cases z) (by decide))) (pa_cons (pe_fz (pe_disp (pps_cons pe_str pe_int pps_nil) (by rfl) (by rfl) (fun z => by cases z) (by decide))) (pa_cons (pe_none1 (pps_cons pe_non pe_int pps_nil) (by rfl) (by rfl) (fun z => by cases z) (by decide)) (pa_cons (pe_fz (pe_disp (pps_cons pe_str pe_int pps_nil) (by rfl) (by rfl) (fun z => by cases z) (by decide))) pa_nil)))))))))))
      (pss_one (ps_ret (pe_call G__law_of (hr.mono (by first | decide | omega)) (by rfl) T.m__law_of T.F__law_of.kp T.b__law_of .nil pass0 (pa_cons (pv 0) (pa_cons (pv 3) pa_nil)))))) pss_nil)
      (pss_cons (ps_if (PW.pt (pw_or (pt_cmpR op_lt (pv 2) pe_int (nomark _)) (pw_or1 (pt_cmpR op_lt (pv 1) pe_int (nomark _))))) (pss_one (ps_ret (pe_call G__law_any (hr.mono (by first | decide | omega)) (by rfl) T.m__law_any T.F__law_any.kp T.b__law_any .nil pass0 (pa_cons (pv 0) (pa_cons pe_int pa_nil))))) pss_nil)
      (pss_cons (ps_if (pt_cmpR op_lt (pv 2) pe_int (nomark _)) (pss_one (ps_ret (pe_fz (pe_lc (own := [("_law_turn", 5)]) (g := gName 5) (tt := tYes) (by rfl) sc__law_odd.nd (pi_range1 (by rfl) T.n_range (pa_cons (pe_call G__law_take (hr.mono (by first | decide | omega)) (by rfl) T.m__law_take T.F__law_take.kp T.b__law_take .nil pass0 (pa_cons (pv 0) (pa_cons pe_int pa_nil))) pa_nil)) (blkOk_by (own := [("_law_turn", 5)]) (N := ["_law_pot", "_law_deep", "_law_pick", "_law_odds", "_law_fields", "_law_turn", "_law_field"]) (sc := defScope s__law_odd) (by decide +kernel)) (fun _ _ _ _ _ => (pg_name (i := 5) sc__law_odd.nd rfl (Or.inl rfl))) (fun _ _ _ _ _ => pts_nil) (fun _ _ _ _ _ => (pe_call G__law_odd (hr.mono (by first | decide | omega)) (by rfl) T.m__law_odd T.F__law_odd.kp T.b__law_odd .nil pass0 (pa_cons (pv 0) (pa_cons (pe_op op_sub (pv 1) pe_int) pa_nil)))))))) pss_nil)
      (pss_cons (ps_set (i := 4) sc__law_odd.nd rfl (Or.inl rfl) (pe_call G__law_unlike (hr.mono (by first | decide | omega)) (by rfl) T.m__law_unlike T.F__law_unlike.kp T.b__law_unlike .nil pass0 (pa_cons (pv 0) (pa_cons (pe_lst (pa_cons pe_str (pa_cons pe_str (pa_cons pe_str (pa_cons pe_str pa_nil))))) (pa_cons (pe_call G__law_take (hr.mono (by first | decide | omega)) (by rfl) T.m__law_take T.F__law_take.kp T.b__law_take .nil pass0 (pa_cons (pv 0) (pa_cons pe_int pa_nil))) pa_nil)))))
      (pss_one (ps_ret (pe_fz (pe_callTy (call_dictP rfl) (by rfl) T.n_dict PyProof.Rows.Boot.«dict» (pa_cons (pe_lc (own := [("_law_field", 6)]) (g := gName 6) (tt := tYes) (by rfl) sc__law_odd.nd (pi_list (pv 4)) (blkOk_by (own := [("_law_field", 6)]) (N := ["_law_pot", "_law_deep", "_law_pick", "_law_odds", "_law_fields", "_law_turn", "_law_field"]) (sc := defScope s__law_odd) (by decide +kernel)) (fun _ _ _ _ _ => (pg_name (i := 6) sc__law_odd.nd rfl (Or.inl rfl))) (fun _ _ _ _ _ => pts_nil) (fun _ _ _ _ _ => (pe_tup (pa_cons (pv 6) (pa_cons (pe_call G__law_odd (hr.mono (by first | decide | omega)) (by rfl) T.m__law_odd T.F__law_odd.kp T.b__law_odd .nil pass0 (pa_cons (pv 0) (pa_cons (pe_op op_sub (pv 1) pe_int) pa_nil))) pa_nil))))) pa_nil)))))))))), ?_⟩
  have h20 := go_pos n
  refine ⟨_, rfl, p, c, 7, rfl, hp, by omega, by decide, by decide, fun H1 r b1 hp1 r0 r1 => ?_⟩
  refine ⟨_, rfl, rfl, _, rfl, ite2 (fun hz => ?_) fun hz => ?_⟩
  · walk_at "r"
    intro p1 n1
    obtain ⟨G1, e1, s1, v1⟩ := g_tup n1 RpL.nil
    rw [e1]
    walk_at "r"
    intro p2 n2
    obtain ⟨G2, e2, s2, v2⟩ := g_tup n2 (RpL.cons (Rp.int (i := 1)) RpL.nil)
    rw [e2]
    walk_at "r"
    intro p3 n3
    refine ⟨upd_same, [(.inl 1, .int 2)], rfl, by decide, p3, _, rfl, upd_same, True.intro, fun o3 => ?_⟩
    obtain ⟨G3, e3, s3, v3⟩ := g_d1 (o := o3) (k := .inl 1) (i := 2) n3
    rw [e3]
    walk_at "r"
    intro p4 n4
    refine ⟨upd_same, [(.inr "", .int 1)], rfl, by decide, p4, _, rfl, upd_same, True.intro, fun o4 => ?_⟩
    obtain ⟨G4, e4, s4, v4⟩ := g_d1 (o := o4) (k := .inr "") (i := 1) n4
    rw [e4]
    walk_at "r"
    intro p5 n5
    refine ⟨upd_same, [(.inr "A", .int 1)], rfl, by decide, p5, _, rfl, upd_same, True.intro, fun o5 => ?_⟩
    obtain ⟨G5, e5, s5, v5⟩ := g_d1 (o := o5) (k := .inr "A") (i := 1) n5
    rw [e5]
    walk_at "r"
    intro p6 n6
    refine ⟨upd_same, [(.inr "abcdefghi", .int 1)], rfl, by decide, p6, _, rfl, upd_same, True.intro, fun o6 => ?_⟩
    obtain ⟨G6, e6, s6, v6⟩ := g_d1 (o := o6) (k := .inr "abcdefghi") (i := 1) n6
    rw [e6]
    walk_at "r"
    intro p7 n7
    refine ⟨upd_same, [(.inr "a b", .int 1)], rfl, by decide, p7, _, rfl, upd_same, True.intro, fun o7 => ?_⟩
    obtain ⟨G7, e7, s7, v7⟩ := g_d1 (o := o7) (k := .inr "a b") (i := 1) n7
    rw [e7]
    walk_at "r"
    intro p8 n8
    refine ⟨upd_same, rfl, fun o8 no8 sm8 => ?_⟩
    obtain ⟨G8, e8, s8, v8⟩ := g_none (o := o8) n8 no8 sm8
    rw [e8]
    walk_at "r"
    intro p9 n9
    refine ⟨upd_same, [(.inr "ab1", .int 0)], rfl, by decide, p9, _, rfl, upd_same, True.intro, fun o9 => ?_⟩
    obtain ⟨G9, e9, s9, v9⟩ := g_d1 (o := o9) (k := .inr "ab1") (i := 0) n9
    rw [e9]
    walk_at "r"
    intro l nl
    obtain ⟨G10, e10, s10, hl⟩ := g_mut (xs := [.ref p1, .ref p2, .ref p3, .ref p4, .ref p5, .ref p6, .ref p7, .ref p8, .ref p9]) nl
    rw [e10]
    have t9 := s10
    have t8 := s9.trans t9
    have t7 := s8.trans t8
    have t6 := s7.trans t7
    have t5 := s6.trans t6
    have t4 := s5.trans t5
    have t3 := s4.trans t4
    have t2 := s3.trans t3
    have t1 := s2.trans t2
    have t0 := s1.trans t1
    have hp2 := hp1.same t0
    have nlp : l ≠ p := (hp1.same (s1.trans (s2.trans (s3.trans (s4.trans (s5.trans (s6.trans (s7.trans (s8.trans s9))))))))).ne nl
    refine ⟨_, rfl, _, rfl, p, l, c + 1, _, rfl, hp2, by omega, SqL.of hl, nlp, by simp, by show 9 < 1000; decide, fun H' v bv hp' hm => ?_⟩
    have fin : ∀ d, Rp G10 d v → gdB 3 1 false d = true → Q v H' := fun d rd gd => k H' v d (b1.trans ((But.same t0).trans bv)) (hp'.up (by omega)) (rd.keep (kp_but hp2 bv)) ((gdB_ok gd).up (by omega))
    simp only [List.mem_cons, List.not_mem_nil, or_false] at hm
    rcases hm with rfl | rfl | rfl | rfl | rfl | rfl | rfl | rfl | rfl
    · exact fin _ (v1.same t1) (by decide +kernel)
    · exact fin _ (v2.same t2) (by decide +kernel)
    · exact fin _ (v3.same t3) (by decide +kernel)
    · exact fin _ (v4.same t4) (by decide +kernel)
    · exact fin _ (v5.same t5) (by decide +kernel)
    · exact fin _ (v6.same t6) (by decide +kernel)
    · exact fin _ (v7.same t7) (by decide +kernel)
    · exact fin _ (v8.same t8) (by decide +kernel)
    · exact fin _ (v9.same t9) (by decide +kernel)
  refine ⟨_, rfl, _, _, rfl, rfl, _, rfl, ?_⟩
  have any : ∀ Hx, But p H1 Hx → PotAt Hx p (c + 1) → spAny 2 [.ref p, .int 1] Hx Q E0 := fun Hx bx hpx => ⟨p, c + 1, rfl, hpx, by show c + 1 + 13 < _; omega, fun H' v d b hp' rd g => k H' v d (b1.trans (bx.trans b)) (hp'.up (by show c + 1 + 13 ≤ _; omega)) rd ((g.weak).up (by show 1 ≤ n + 1; omega))⟩
  refine ite2 (fun hy => ?_) fun hy => ?_
  · exact iT ⟨_, rfl, any H1 But.refl hp1⟩
  refine ⟨_, rfl, _, _, rfl, rfl, _, rfl, ?_⟩
  cases n with
  | zero => exact iT ⟨_, rfl, any H1 But.refl hp1⟩
  | succ n =>
    have hgo : go (n + 1) = 20 + 4 * go n := rfl
    have h0 := go_pos n
    have em : ((n + 1 : Nat) : Int) - 1 = (n : Int) := by omega
    refine ite2 (fun hb => absurd (of_decide_eq_true hb) (by omega)) fun hb => ?_
    refine ⟨_, rfl, _, _, rfl, rfl, _, rfl, ite2 (fun hz => ?_) fun hz => ?_⟩
    · refine ⟨_, rfl, p, c + 1, 4, rfl, hp1, by omega, by decide, by decide, fun H2 r2 b2 hp2 q0 q1 => ⟨_, rfl, by omega, by omega, fun D nD => ?_⟩⟩
      have Dp := hp2.ne nD
      have b2a : But p H H2 := b1.trans b2
      have nD0 : H D = none := by
        cases z : H D with
        | none => rfl
        | some o => rw [b2a _ _ Dp z] at nD; cases nD
      refine lc_gen walk_range (fun i H3 => But p H H3 ∧ PotAt H3 p (c + 2 + ((i * go n : Nat) : Int))) (fun i v H3 => ∃ d, Gd 3 (n + 1) false d ∧ Rp H3 d v) (fun i H3 xs ys a _ => ⟨but_put nD0 a.1, a.2.put Dp⟩) (fun i v H2 H3 ⟨t, i1, r1⟩ kp => ⟨t, i1, r1.keep kp⟩) (by omega)
        ⟨but_put nD0 b2a, by rw [Nat.zero_mul]; exact (hp2.put Dp).up (by omega)⟩ (fun _ _ _ _ => trivial) ?_ ?_
      · rintro i x H3 H4 acc hi ⟨b3, hp3⟩ hD ⟨rfl, rfl⟩ Qc kc
        have hi2 : i ≤ 3 := by omega
        have him : i * go n ≤ 3 * go n := Nat.mul_le_mul_right _ hi2
        refine ⟨rfl, _, rfl, _, rfl, _, _, rfl, rfl, p, c + 2 + ((i * go n : Nat) : Int), ?_, hp3, by omega, fun H5 v d b5 hp5 r5 g5 => ?_⟩
        · show [V.ref p, V.int (((n + 1 : Nat) : Int) - 1)] = _
          rw [em]
        · refine kc v H5 (b5 _ _ Dp hD) (kp_but hp3 b5) ⟨b3.trans b5, ?_⟩ ⟨d, g5, r5⟩
          rw [Nat.succ_mul]
          exact hp5.up (by omega)
      · rintro H3 xs ⟨b3, hp3⟩ hD hl hr3
        obtain ⟨ds, rds, lds, gds⟩ := rpL_of hr3
        refine ⟨D, _, rfl, hD, True.intro, fun o => ?_⟩
        have kp : Kp H3 (upd H3 D (.frz o (.lst xs))) := Kp.put hD (fun _ _ z => nomatch z) (fun _ z => nomatch z)
        have him : r2.toNat * go n ≤ 3 * go n := Nat.mul_le_mul_right _ (by omega)
        refine k _ _ (.list ds) (but_put nD0 b3) ((hp3.put Dp).up (by omega)) (Rp.lst upd_same (RpL.keep kp _ _ rds)) (Gd.list (by omega) fun d hd => ?_)
        obtain ⟨i, hi, e⟩ := List.mem_iff_getElem.mp hd
        exact gds i d (by rw [List.getElem?_eq_getElem hi, e])
    · refine ⟨_, rfl, len_ok (by show 4 ≤ 1000; decide), fun l nl => ?_⟩
      have s1 : Same H1 (upd H1 l (.lst [.str "x", .str "abcdefgh", .str "z", .str "open"])) := same_new nl
      have hl : (upd H1 l (.lst [.str "x", .str "abcdefgh", .str "z", .str "open"])) l = some (.lst [.str "x", .str "abcdefgh", .str "z", .str "open"]) := upd_same
      have nlp := hp1.ne nl
      change tCons _ _ _ (upd H1 l (.lst [.str "x", .str "abcdefgh", .str "z", .str "open"])) _
      generalize upd H1 l (.lst [.str "x", .str "abcdefgh", .str "z", .str "open"]) = H2 at s1 hl ⊢
      have hp2 := hp1.same s1
      refine ⟨_, rfl, p, c + 1, 4, rfl, hp2, by omega, by decide, by decide, fun H3 r3 b3 hp3 q0 q1 => ?_⟩
      refine ⟨p, l, c + 1 + 1, r3, _, rfl, hp3, by omega, SqL.of (b3 _ _ nlp hl), nlp, by decide, q0, by omega, fun H4 f ys b4 hp4 nf hf yl ym => ?_⟩
      have fp := hp3.ne nf
      have b4a : But p H H4 := b1.trans ((But.same s1).trans (b3.trans b4))
      refine ⟨_, rfl, f, rfl, ⟨ys, SqL.of hf⟩, fun D nD => ?_⟩
      have Dp := hp4.ne nD
      have nD0 : H D = none := by
        cases z : H D with
        | none => rfl
        | some o => rw [b4a _ _ Dp z] at nD; cases nD
      have Df : D ≠ f := by
        rintro rfl
        rw [hf] at nD
        cases nD
      refine lc_gen (walk_list (xs := ys)) (fun i H5 => But p H H5 ∧ PotAt H5 p (c + 6 + ((i * go n : Nat) : Int)) ∧ H5 f = some (.lst ys)) (fun i v H5 => ∃ a x u d, v = .ref a ∧ H5 a = some (.tup [.str x, u]) ∧ Rp H5 d u ∧ (nmOk false x ∧ Gd 3 (n + 1) false d))
        (fun i H5 xs ys a _ => ⟨but_put nD0 a.1, a.2.1.put Dp, by rw [upd_ne (Ne.symm Df)]; exact a.2.2⟩) (fun i v H2 H3 ⟨a, x, u, d, h1, h2, h3, h4⟩ kp => ⟨a, x, u, d, h1, kp.tu _ _ h2, h3.keep kp, h4⟩) (by omega)
        ⟨but_put nD0 b4a, by rw [Nat.zero_mul]; exact (hp4.put Dp).up (by omega), by rw [upd_ne (Ne.symm Df)]; exact hf⟩ (fun _ H5 _ a => SqL.of a.2.2) ?_ ?_
      · rintro i x H5 H6 acc hi ⟨b5, hp5, hf5⟩ hD ⟨rfl, hx⟩ Qc kc
        have hi2 : i ≤ 3 := by omega
        have him : i * go n ≤ 3 * go n := Nat.mul_le_mul_right _ hi2
        refine ⟨rfl, _, rfl, _, rfl, _, rfl, _, _, rfl, rfl, p, c + 6 + ((i * go n : Nat) : Int), ?_, hp5, by omega, fun H7 v d b7 hp7 r7 g7 => ⟨len_ok (by show 2 ≤ 1000; decide), fun t nt => ?_⟩⟩
        · show [V.ref p, V.int (((n + 1 : Nat) : Int) - 1)] = _
          rw [em]
        · have s8 : Same H7 (upd H7 t (.tup [x, v])) := same_new nt
          have hx2 : ∃ z : Str, x = .str z ∧ nmOk false z := by
            have m := ym x (List.mem_of_getElem? hx)
            simp only [List.mem_cons, List.not_mem_nil, or_false] at m
            rcases m with rfl | rfl | rfl | rfl <;> exact ⟨_, rfl, by decide +kernel, fun z => nomatch z⟩
          obtain ⟨z, rfl, nz⟩ := hx2
          refine kc _ _ (s8 _ _ (b7 _ _ Dp hD)) ((kp_but hp5 b7).trans (Kp.same s8)) ⟨b5.trans (b7.trans (But.same s8)), ?_, s8 _ _ (b7 _ _ fp hf5)⟩ ⟨t, z, v, d, rfl, upd_same, r7.same s8, nz, g7⟩
          rw [Nat.succ_mul]
          exact (hp7.same s8).up (by omega)
      · rintro H5 xs ⟨b5, hp5, hf5⟩ hD hl5 hr5
        obtain ⟨ps, kvs, more, rfl, pr, rm, lm, gm⟩ := tups_of (K := K) hr5
        refine ⟨D, ps, kvs, rfl, SqL.of hD, pr, fun q nq => ⟨q, _, rfl, upd_same, True.intro, fun o => ?_⟩⟩
        have qp := hp5.ne nq
        have nq0 : H q = none := by
          cases z : H q with
          | none => rfl
          | some o => rw [b5 _ _ qp z] at nq; cases nq
        have kp : Kp H5 (upd (upd H5 q (.dK (mergeK [] kvs))) q (.frz o (.dK (mergeK [] kvs)))) := by
          rw [upd_upd]
          exact Kp.new nq
        have him : ys.length * go n ≤ 3 * go n := Nat.mul_le_mul_right _ (by omega)
        refine k _ _ (.dict (mergeS [] more)) (but_put nq0 (but_put nq0 b5)) (((hp5.put qp).put qp).up (by omega)) (Rp.dct upd_same (RpD.keep kp _ _ (rpD_merge RpD.nil rm))) (Gd.merge (by simp only [List.length_nil]; omega) rfl (fun k d m => by simp at m) fun x d m => gm x d m)
theorem ok_odd (T : Tx P K mg) : ∀ n : Nat, FnOk P w K mg base CX0 (n + 7) T.a__law_odd T.fd__law_odd ["_law_pot", "_law_deep"] (spOdd n)
  | 0 => ⟨fun vs H Q E h => h.elim, fun A outer s H args us vs Q E hr e0 hb r h => h.elim⟩
  | n + 1 => odd_step T (ok_odd T n)
end
end K00
end
section
set_option Elab.async false
set_option linter.all false
set_option maxRecDepth 100000
set_option maxHeartbeats 8000000
set_option pp.maxSteps 700
namespace K00
open PySem PySem.Spec PyProof.Rows L2 Tg
local macro_rules | `(tactic| walk_at "c") => `(tactic| first | assumption | trivial | omega | (constructor <;> omega) | decide | exact len_ok (Nat.le_of_ble_eq_true rfl))
local macro_rules | `(tactic| walk_at "sq") => `(tactic| first | exact SqL.of (by assumption) | exact SqL.of upd_same | assumption | exact SqT.of (by assumption) | exact SqT.of upd_same | exact .inl (SqL.of (by assumption)) | exact .inr (SqT.of (by assumption)))
local macro_rules | `(tactic| walk_at "r1") => `(tactic| first
  | refine ⟨_, rfl, ?_⟩
  | refine ⟨_, _, rfl, rfl, ?_⟩
  | refine .inl ⟨_, rfl, ?_⟩
  | refine .inr ⟨_, rfl, ?_⟩
  | (apply Exists.intro; apply Exists.intro; apply Exists.intro; apply Exists.intro; refine And.intro rfl (And.intro rfl (And.intro ?sq ?_)); (case sq => walk_at "sq"); refine And.intro rfl ?_)
  | (apply Exists.intro; apply Exists.intro; apply Exists.intro; apply Exists.intro; refine And.intro rfl (And.intro rfl (And.intro ?hp ?_)); (case hp => first | assumption | exact upd_same); refine And.intro rfl ?_)
  | (refine And.intro ?c ?_; (case c => walk_at "c")))
local macro_rules | `(tactic| walk_at "r") => `(tactic| repeat walk_at "r1")
theorem hu0 {k : Nat} {A : Around} (hr : Room k A) : A.units < cLine := by
  have := hr.un
  omega
def fb : Nat → Nat
  | 0 => 0
  | n + 1 => 80 + fb n
theorem rpL_take {H : Hp} : ∀ {ds : List PyData} {xs : List V} (i : Nat), RpL H ds xs → RpL H (ds.take i) (xs.take i)
  | [], xs, i, r => by simp only [RpL] at r; subst r; simp [RpL.nil]
  | d :: ds, xs, 0, r => by simp [RpL.nil]
  | d :: ds, xs, i + 1, r => by
    simp only [RpL] at r
    obtain ⟨x, l, rfl, r1, r2⟩ := r
    exact RpL.cons r1 (rpL_take i r2)
theorem rpL_drop {H : Hp} : ∀ {ds : List PyData} {xs : List V} (i : Nat), RpL H ds xs → RpL H (ds.drop i) (xs.drop i)
  | [], xs, i, r => by simp only [RpL] at r; subst r; simp [RpL.nil]
  | d :: ds, xs, 0, r => r
  | d :: ds, xs, i + 1, r => by
    simp only [RpL] at r
    obtain ⟨x, l, rfl, r1, r2⟩ := r
    exact rpL_drop i r2
theorem rpL_app {H : Hp} : ∀ {ds es : List PyData} {xs ys : List V}, RpL H ds xs → RpL H es ys → RpL H (ds ++ es) (xs ++ ys)
  | [], es, xs, ys, r, k => by simp only [RpL] at r; subst r; exact k
  | d :: ds, es, xs, ys, r, k => by
    simp only [RpL] at r
    obtain ⟨x, l, rfl, r1, r2⟩ := r
    exact RpL.cons r1 (rpL_app r2 k)
theorem pair_app {α β : Type} {F : α → β → Prop} : ∀ {xs us : List α} {ys vs : List β}, Paired F xs ys → Paired F us vs → Paired F (xs ++ us) (ys ++ vs)
  | _, _, _, _, .nil, k => k
  | _, _, _, _, .cons h t, k => .cons h (pair_app t k)
theorem pair_imp {α β : Type} {F G : α → β → Prop} (h : ∀ a b, F a b → G a b) : ∀ {xs : List α} {ys : List β}, Paired F xs ys → Paired G xs ys
  | _, _, .nil => .nil
  | _, _, .cons r t => .cons (h _ _ r) (pair_imp h t)
def moreOf : List (PyData × PyData) → List (Str × PyData)
  | [] => []
  | (.str x, d) :: r => (x, d) :: moreOf r
  | _ :: r => moreOf r
theorem more_str : ∀ {kds : List (PyData × PyData)}, isDocK kds = true → strP (moreOf kds) = kds
  | [], _ => rfl
  | (k, d) :: r, h => by
    simp only [isDocK, Bool.and_eq_true] at h
    cases k with
    | str x =>
      have ih := more_str h.2
      unfold strP at ih ⊢
      simp only [moreOf, List.map_cons, ih]
    | _ => simp [isNm] at h
theorem more_len : ∀ (kds : List (PyData × PyData)), (moreOf kds).length ≤ kds.length
  | [] => Nat.le_refl _
  | (k, d) :: r => by
    have := more_len r
    cases k <;> simp only [moreOf, List.length_cons] <;> omega
theorem more_mem : ∀ {kds : List (PyData × PyData)} {x : Str} {d : PyData}, (x, d) ∈ moreOf kds → (PyData.str x, d) ∈ kds
  | (k, e) :: r, x, d, h => by
    cases k with
    | str y =>
      simp only [moreOf, List.mem_cons] at h
      rcases h with h | h
      · cases h
        exact List.mem_cons_self
      · exact List.mem_cons_of_mem _ (more_mem h)
    | _ => exact List.mem_cons_of_mem _ (more_mem (kds := r) h)
def spBent (n : Nat) : Sp := fun vs H Q _ => ∃ (p : Addr) (v : V) (c : Int) (d : PyData), vs = [.ref p, v] ∧ PotAt H p c ∧ Rp H d v ∧ okD 3 d = true ∧ isDoc d = true ∧ d.depth < n ∧ c + fb n < 1000000 ∧
  ∀ (H' : Hp) (v' : V) (d' : PyData), But p H H' → PotAt H' p (c + fb n) → Rp H' d' v' → Gd 4 (d.depth + 2) false d' → Q v' H'
section
variable {P : Program} {w : World} {K : PySem.W.Frag} {mg : Str → Option Value} {base : Heap}
theorem fn_or {CX : CXT} {k : Nat} {f : Addr} {fd : FuncData} {ps : List Str} {a b : Sp} (F : FnOk P w K mg base CX k f fd ps a) (G : FnOk P w K mg base CX k f fd ps b) : FnOk P w K mg base CX k f fd ps (fun vs H Q E => a vs H Q E ∨ b vs H Q E) :=
  ⟨fun vs H Q E h => h.elim (F.len vs H Q E) (G.len vs H Q E), fun A o s H ag us vs Q E r e bd rel h => h.elim (F.run A o s H ag us vs Q E r e bd rel) (G.run A o s H ag us vs Q E r e bd rel)⟩
theorem bent_step (T : Tx P K mg) {n : Nat} (G__law_bent : FnOk P w K mg base CX0 (n + 8) T.a__law_bent T.fd__law_bent ["_law_pot", "_law_document"] (spBent n)) : FnOk P w K mg base CX0 (n + 9) T.a__law_bent T.fd__law_bent ["_law_pot", "_law_document"] (spBent (n + 1)) := by
  have G__law_take := ok_take (w := w) (base := base) T
  have G__law_of := ok_of (w := w) (base := base) T
  have G__law_any := fn_or ((ok_any (w := w) (base := base) T 2).mono (show 6 ≤ 7 by decide)) (ok_any (w := w) (base := base) T 3)
  refine T.F__law_bent.ok sc__law_bent (fun vs H Q E h => ?_) (fun cdv A outer s H vs Q E hr h => ?_)
  · obtain ⟨p, v, c, d, rfl, _⟩ := h
    rfl
  obtain ⟨p, v, c, d, rfl, hp, rd, hok, hdoc, hdp, hc, k⟩ := h
  refine ⟨_, (pss_cons (ps_if (PW.pt (pw_and (pt_val (pe_callB call_isD (by rfl) T.n_isinstance PyProof.Rows.Boot.«isinstance» (pa_cons (pv 1) (pa_cons (pe_bltn (v := .ty "list") (by rfl) T.n_list PyProof.Rows.Boot.«list» rfl) pa_nil)))) (pw_and (pt_cmpR (op_neL0 (hu0 hr)) (pv 1) (pe_lst pa_nil) (nomark _)) (pw_and1 (pt_cmpR op_gt (pe_call G__law_take (hr.mono (by first | decide | omega)) (by rfl) T.m__law_take T.F__law_take.kp T.b__law_take .nil pass0 (pa_cons (pv 0) (pa_cons pe_int pa_nil))) pe_int (nomark _)))))) (pss_cons (ps_par (i := 2) (j := 3) (by rfl) sc__law_bent.nd rfl rfl (by decide) rfl rfl (pa_cons (pe_call G__law_take (hr.mono (by first | decide | omega)) (by rfl) T.m__law_take T.F__law_take.kp T.b__law_take .nil pass0 (pa_cons (pv 0) (pa_cons (pe_callB call_len (by rfl) T.n_len PyProof.Rows.Boot.«len» (pa_cons (pv 1) pa_nil)) pa_nil))) (pa_cons (pe_call G__law_take (hr.mono (by first | decide | omega)) (by rfl) T.m__law_take T.F__law_take.kp T.b__law_take .nil pass0 (pa_cons (pv 0) (pa_cons pe_int pa_nil))) pa_nil)) (by rfl))
      (pss_cons (ps_if (pt_cmpR op_eq (pv 3) pe_int (nomark _)) (pss_one (ps_ret (pe_fz (pe_op op_cat (pe_slice sl_list (pv 1) po_none (po_some (pv 2))) (pe_slice sl_list (pv 1) (po_some (pe_op op_add (pv 2) pe_int)) po_none))))) pss_nil)
      (pss_cons (ps_if (pt_cmpR op_eq (pv 3) pe_int (nomark _)) (pss_one (ps_ret (pe_fz (pe_op op_cat (pe_op op_cat (pe_slice sl_list (pv 1) po_none (po_some (pv 2))) (pe_lst (pa_cons (pe_ix ix_list (pv 1) (pv 2) (fun _ _ => rfl)) pa_nil))) (pe_slice sl_list (pv 1) (po_some (pv 2)) po_none))))) pss_nil)
      (pss_one (ps_ret (pe_fz (pe_op op_cat (pe_op op_cat (pe_slice sl_list (pv 1) po_none (po_some (pv 2))) (pe_lst (pa_cons (pe_call G__law_bent (hr.mono (by first | decide | omega)) (by rfl) T.m__law_bent T.F__law_bent.kp T.b__law_bent .nil pass0 (pa_cons (pv 0) (pa_cons (pe_ix ix_list (pv 1) (pv 2) (fun _ _ => rfl)) pa_nil))) pa_nil))) (pe_slice sl_list (pv 1) (po_some (pe_op op_add (pv 2) pe_int)) po_none)))))))) pss_nil)
      (pss_cons (ps_if (PW.pt (pw_and (pt_val (pe_callB call_isD (by rfl) T.n_isinstance PyProof.Rows.Boot.«isinstance» (pa_cons (pv 1) (pa_cons (pe_bltn (v := .ty "dict") (by rfl) T.n_dict PyProof.Rows.Boot.«dict» rfl) pa_nil)))) (pw_and (pt_cmpR (op_neD0 (hu0 hr)) (pv 1) pe_dnewK (nomark _)) (pw_and1 (pt_cmpR op_gt (pe_call G__law_take (hr.mono (by first | decide | omega)) (by rfl) T.m__law_take T.F__law_take.kp T.b__law_take .nil pass0 (pa_cons (pv 0) (pa_cons pe_int pa_nil))) pe_int (nomark _)))))) (pss_cons (ps_set (i := 4) sc__law_bent.nd rfl (Or.inl rfl) (pe_callB (call_sortedD rfl) (by rfl) T.n_sorted PyProof.Rows.Boot.«sorted» (pa_cons (pv 1) pa_nil)))
      (pss_cons (ps_asg (pe_tup (pa_cons (pe_call G__law_of (hr.mono (by first | decide | omega)) (by rfl) T.m__law_of T.F__law_of.kp T.b__law_of .nil pass0 (pa_cons (pv 0) (pa_cons (pv 4) pa_nil))) (pa_cons (pe_call G__law_take (hr.mono (by first | decide | omega)) (by rfl) T.m__law_take T.F__law_take.kp T.b__law_take .nil pass0 (pa_cons (pv 0) (pa_cons pe_int pa_nil))) pa_nil))) (pg_tup rfl (pgs_cons (pg_name (i := 5) sc__law_bent.nd rfl (Or.inr rfl)) (pgs_cons (pg_name (i := 3) sc__law_bent.nd rfl (Or.inl rfl)) pgs_nil))))
      (pss_cons (ps_if (pt_cmpR op_eq (pv 3) pe_int (nomark _)) (pss_one (ps_ret (pe_fz (pe_callTy (call_dictP rfl) (by rfl) T.n_dict PyProof.Rows.Boot.«dict» (pa_cons (pe_lc (own := [("_law_other", 7), ("_law_part", 8)]) (g := gTup K 2 (gCons (gName 7) (gCons (gName 8) (gNil)))) (by rfl) sc__law_bent.nd (pi_items (pv 1)) (blkOk_by (own := [("_law_other", 7), ("_law_part", 8)]) (N := ["_law_pot", "_law_document", "_law_at", "_law_pick", "_law_fields", "_law_field", "_law_bent_here", "_law_other", "_law_part"]) (sc := defScope s__law_bent) (by decide +kernel)) (fun _ _ _ _ _ => (pg_tup rfl (pgs_cons (pg_name (i := 7) sc__law_bent.nd rfl (Or.inl rfl)) (pgs_cons (pg_name (i := 8) sc__law_bent.nd rfl (Or.inl rfl)) pgs_nil)))) (fun _ _ _ _ _ => (pts_one (pt_cmpR op_ne (pv 7) (pv 5) (nomark _)))) (fun _ _ _ _ _ => (pe_tup (pa_cons (pv 7) (pa_cons (pv 8) pa_nil))))) pa_nil))))) pss_nil)
      (pss_cons (ps_if (pt_cmpR op_eq (pv 3) pe_int (nomark _)) (pss_one (ps_ret (pe_fz (pe_callTy (call_dictP rfl) (by rfl) T.n_dict PyProof.Rows.Boot.«dict» (pa_cons (pe_op op_cat (pe_liF rfl (pv 1) (by rfl) T.n_list PyProof.Rows.Boot.«list») (pe_lst (pa_cons (pe_tup (pa_cons (pe_call G__law_of (hr.mono (by first | decide | omega)) (by rfl) T.m__law_of T.F__law_of.kp T.b__law_of .nil pass0 (pa_cons (pv 0) (pa_cons (pe_lst (pa_cons pe_str (pa_cons pe_str (pa_cons pe_str (pa_cons pe_str pa_nil))))) pa_nil))) (pa_cons (pe_call G__law_any (hr.mono (by first | decide | omega)) (by rfl) T.m__law_any T.F__law_any.kp T.b__law_any .nil pass0 (pa_cons (pv 0) (pa_cons pe_int pa_nil))) pa_nil))) pa_nil))) pa_nil))))) pss_nil)
      (pss_cons (ps_set (i := 6) sc__law_bent.nd rfl (Or.inr rfl) (pe_call G__law_bent (hr.mono (by first | decide | omega)) (by rfl) T.m__law_bent T.F__law_bent.kp T.b__law_bent .nil pass0 (pa_cons (pv 0) (pa_cons (pe_dget (hu_of hr) (pv 1) (pv 5) (fun _ _ => rfl)) pa_nil))))
      (pss_one (ps_ret (pe_fz (pe_callTy (call_dictP rfl) (by rfl) T.n_dict PyProof.Rows.Boot.«dict» (pa_cons (pe_lc (own := [("_law_other", 7), ("_law_part", 8)]) (g := gTup K 2 (gCons (gName 7) (gCons (gName 8) (gNil)))) (tt := tYes) (by rfl) sc__law_bent.nd (pi_items (pv 1)) (blkOk_by (own := [("_law_other", 7), ("_law_part", 8)]) (N := ["_law_pot", "_law_document", "_law_at", "_law_pick", "_law_fields", "_law_field", "_law_bent_here", "_law_other", "_law_part"]) (sc := defScope s__law_bent) (by decide +kernel)) (fun _ _ _ _ _ => (pg_tup rfl (pgs_cons (pg_name (i := 7) sc__law_bent.nd rfl (Or.inl rfl)) (pgs_cons (pg_name (i := 8) sc__law_bent.nd rfl (Or.inl rfl)) pgs_nil)))) (fun _ _ _ _ _ => pts_nil) (fun _ _ _ _ _ => (pe_tup (pa_cons (pv 7) (pa_cons (pe_ifExp (pt_cmpR op_eq (pv 7) (pv 5) (nomark _)) (pv 6) (pv 8)) pa_nil))))) pa_nil)))))))))) pss_nil)
      (pss_one (ps_ret (pe_call G__law_any (hr.mono (by first | decide | omega)) (by rfl) T.m__law_any T.F__law_any.kp T.b__law_any .nil pass0 (pa_cons (pv 0) (pa_cons pe_int pa_nil))))))), ?_⟩
  have hfb : fb (n + 1) = 80 + fb n := rfl
  have anyQ : ∀ Hx c', But p H Hx → PotAt Hx p c' → c' ≤ c + 3 → spAny 3 [.ref p, .int 2] Hx Q E0 := fun Hx c' bx hpx hc' => ⟨p, c', rfl, hpx, by show c' + 49 < _; omega, fun H' v d b hp' rd g => k H' v d (bx.trans b) (hp'.up (by show c' + 49 ≤ _; omega)) rd ((g.weak.wide (by decide)).up (by show 2 ≤ _; omega))⟩
  refine ⟨_, rfl, _, _, d, _, _, rfl, .ty _, rd, kit_l d, _, rfl, ?_⟩
  cases hL : isL d with
  | true =>
    obtain ⟨ds, rfl⟩ := isL_list hL
    have rd0 := rd
    simp only [Rp] at rd
    obtain ⟨a, o, xs, rfl, ha, rl⟩ := rd
    simp only [okD, Bool.and_eq_true, decide_eq_true_eq] at hok
    simp only [PyData.depth] at hdp k
    rw [isDoc] at hdoc
    have hlen := rpL_len rl
    have nodict : ∀ Hx, Kp H Hx → Rp Hx (.list ds) (.ref a) := fun Hx kx => rd0.keep kx
    refine iT ⟨_, rfl, len_ok (Nat.zero_le _), fun e ne => ⟨a, e, xs, rfl, rfl, .inl (.inr ⟨o, by rw [upd_ne (ne_of_none ha ne)]; exact ha⟩), SqL.of upd_same, _, rfl, ?_⟩⟩
    have se : Same H (upd H e (.lst [])) := same_new ne
    generalize upd H e (.lst []) = H1 at se ⊢
    have hp1 := hp.same se
    cases xs with
    | nil => exact iF (iF ⟨_, rfl, _, _, _, _, false, rfl, .ty _, rd0.same se, rfl, _, rfl, iF ⟨_, rfl, .inr (anyQ H1 c (But.same se) hp1 (by omega))⟩⟩)
    | cons x0 xs0 =>
      have hx0 : ∃ xs, xs = x0 :: xs0 := ⟨_, rfl⟩
      obtain ⟨xs, ex⟩ := hx0
      rw [← ex] at rl ha hlen
      have xpos : 0 < xs.length := by rw [ex]; exact Nat.zero_lt_succ _
      refine iT ⟨_, rfl, p, c, 4, rfl, hp1, by omega, by decide, by decide, fun H2 r b2 hp2 r0 r1 => ⟨_, _, rfl, rfl, _, rfl, ?_⟩⟩
      have b2a : But p H H2 := (But.same se).trans b2
      have kp2 : Kp H H2 := kp_but hp b2a
      have ha2 : H2 a = some (.frz o (.lst xs)) := kp2.fz _ _ _ ha
      refine ite2 (fun hz => ?_) fun hz => ?_
      · refine ⟨_, rfl, _, rfl, _, _, rfl, .inl ⟨xs, .inl (.inr ⟨o, ha2⟩), rfl⟩, p, c + 1, _, rfl, hp2, by omega, by omega, by omega, fun H3 i b3 hp3 i0 i1 => ?_⟩
        refine ⟨_, rfl, p, c + 1 + 1, 4, rfl, hp3, by omega, by decide, by decide, fun H4 pk b4 hp4 k0 k1 => ⟨_, _, rfl, ?_⟩⟩
        have b4a : But p H H4 := b2a.trans (b3.trans b4)
        have kp4 : Kp H H4 := kp_but hp b4a
        have rl4 := RpL.keep kp4 _ _ rl
        have hsq : SqL K H4 a xs := .inl (.inr ⟨o, kp4.fz _ _ _ ha⟩)
        have mem : ∀ d ∈ ds, Gd 4 (PyData.depthAll ds + 2) false d := fun d m => ⟨ok_mono (by decide) (okL_get hok.2 m).1, by have := (okL_get hok.2 m).2; omega, fun z => nomatch z⟩
        have fin : ∀ (Hx Hy : Hp) (q : Addr) (o : Obj) (es : List PyData) (ys : List V) (c' : Int), But p H Hx → PotAt Hx p c' → c' ≤ c + fb (n + 1) → Hx q = none → RpL Hx es ys → es.length ≤ 4 → (∀ d ∈ es, Gd 4 (PyData.depthAll ds + 2) false d) → Q (.ref q) (upd (upd Hx q (.lst ys)) q (.frz o (.lst ys))) := fun Hx Hy q o es ys c' bx hpx hc' nq r l g => by
          have qp := hpx.ne nq
          have nq0 : H q = none := by
            cases z : H q with
            | none => rfl
            | some o => rw [bx _ _ qp z] at nq; cases nq
          have kq : Kp Hx (upd (upd Hx q (.lst ys)) q (.frz o (.lst ys))) := by
            rw [upd_upd]
            exact Kp.new nq
          refine k _ _ (.list es) (but_put nq0 (but_put nq0 bx)) (((hpx.put qp).put qp).up hc') (Rp.lst upd_same (RpL.keep kq _ _ r)) (Gd.list l g)
        refine ⟨_, rfl, rfl, _, rfl, ite2 (fun hy => ?_) fun hy => ?_⟩
        · refine ⟨_, rfl, _, rfl, _, rfl, a, xs, rfl, hsq, fun q1 n1 => ?_⟩
          rw [cut_to i0 i1]
          have s5 : Same H4 (upd H4 q1 (.lst (xs.take i.toNat))) := same_new n1
          have h5 : upd H4 q1 (.lst (xs.take i.toNat)) q1 = some (.lst (xs.take i.toNat)) := upd_same
          generalize upd H4 q1 (.lst (xs.take i.toNat)) = H5 at s5 h5 ⊢
          refine ⟨_, rfl, ⟨_, rfl, _, _, rfl, rfl, _, rfl, a, xs, rfl, sq_same s5 hsq, fun q2 n2 => ?_⟩⟩
          rw [cut_from (by omega) (by omega)]
          have s6 : Same H5 (upd H5 q2 (.lst (xs.drop (i + 1).toNat))) := same_new n2
          have h6 : upd H5 q2 (.lst (xs.drop (i + 1).toNat)) q2 = some (.lst (xs.drop (i + 1).toNat)) := upd_same
          generalize upd H5 q2 (.lst (xs.drop (i + 1).toNat)) = H6 at s6 h6 ⊢
          refine ⟨q1, q2, _, _, rfl, rfl, s6 _ _ h5, h6, ?_, fun q3 n3 => ⟨q3, _, rfl, upd_same, True.intro, fun o => ?_⟩⟩
          · rw [List.length_take, List.length_drop, sizeLine_eq]
            omega
          · refine fin H6 H6 q3 o (ds.take i.toNat ++ ds.drop (i + 1).toNat) _ _ (b4a.trans (But.same (s5.trans s6))) (hp4.same (s5.trans s6)) (by omega) n3 (rpL_app (rpL_take _ (rl4.same (s5.trans s6))) (rpL_drop _ (rl4.same (s5.trans s6)))) ?_ ?_
            · rw [List.length_append, List.length_take, List.length_drop]
              omega
            · intro d hd
              rcases List.mem_append.mp hd with hd | hd
              · exact mem d (List.mem_of_mem_take hd)
              · exact mem d (List.mem_of_mem_drop hd)
        · have hj : i.toNat < xs.length := by omega
          obtain ⟨x, hx, hxi⟩ : ∃ x, atI xs i = some x ∧ xs[i.toNat]? = some x := ⟨xs[i.toNat], at_of (j := i.toNat) (by omega) (List.getElem?_eq_getElem hj), List.getElem?_eq_getElem hj⟩
          obtain ⟨dx, hdx, rx⟩ := rpL_get rl4 hxi
          have mdx := List.mem_of_getElem? hdx
          refine ⟨_, rfl, rfl, _, rfl, ite2 (fun hy => ?_) fun hy => ?_⟩
          · refine ⟨_, rfl, _, rfl, _, rfl, a, xs, rfl, hsq, fun q1 n1 => ?_⟩
            rw [cut_to i0 i1]
            have s5 : Same H4 (upd H4 q1 (.lst (xs.take i.toNat))) := same_new n1
            have h5 : upd H4 q1 (.lst (xs.take i.toNat)) q1 = some (.lst (xs.take i.toNat)) := upd_same
            generalize upd H4 q1 (.lst (xs.take i.toNat)) = H5 at s5 h5 ⊢
            refine ⟨_, rfl, _, rfl, a, _, _, _, rfl, rfl, sq_same s5 hsq, hx, len_ok (by show 1 ≤ 1000; decide), fun q2 n2 => ?_⟩
            have s6 : Same H5 (upd H5 q2 (.lst [x])) := same_new n2
            have h6 : upd H5 q2 (.lst [x]) q2 = some (.lst [x]) := upd_same
            refine ⟨q1, q2, _, _, rfl, rfl, s6 _ _ h5, h6, ?_, fun q3 n3 => ?_⟩
            · rw [List.length_take, sizeLine_eq]
              show _ + 1 ≤ _
              omega
            generalize upd H5 q2 (.lst [x]) = H6 at s6 h6 n3 ⊢
            have s7 : Same H6 (upd H6 q3 (.lst (xs.take i.toNat ++ [x]))) := same_new n3
            have h7 : upd H6 q3 (.lst (xs.take i.toNat ++ [x])) q3 = some (.lst (xs.take i.toNat ++ [x])) := upd_same
            generalize upd H6 q3 (.lst (xs.take i.toNat ++ [x])) = H7 at s7 h7 ⊢
            have s47 := s5.trans (s6.trans s7)
            refine ⟨_, rfl, ⟨_, rfl, _, rfl, a, xs, rfl, sq_same s47 hsq, fun q4 n4 => ?_⟩⟩
            rw [cut_from (by omega) (by omega)]
            have s8 : Same H7 (upd H7 q4 (.lst (xs.drop i.toNat))) := same_new n4
            have h8 : upd H7 q4 (.lst (xs.drop i.toNat)) q4 = some (.lst (xs.drop i.toNat)) := upd_same
            generalize upd H7 q4 (.lst (xs.drop i.toNat)) = H8 at s8 h8 ⊢
            have s48 := s47.trans s8
            refine ⟨q3, q4, _, _, rfl, rfl, s8 _ _ h7, h8, ?_, fun q5 n5 => ⟨q5, _, rfl, upd_same, True.intro, fun o => ?_⟩⟩
            · rw [List.length_append, List.length_take, List.length_drop, sizeLine_eq]
              show _ + 1 + _ ≤ _
              omega
            · refine fin H8 H8 q5 o ((ds.take i.toNat ++ [dx]) ++ ds.drop i.toNat) _ _ (b4a.trans (But.same s48)) (hp4.same s48) (by omega) n5 (rpL_app (rpL_app (rpL_take _ (rl4.same s48)) (RpL.cons (rx.same s48) RpL.nil)) (rpL_drop _ (rl4.same s48))) ?_ ?_
              · rw [List.length_append, List.length_append, List.length_take, List.length_drop]
                show _ + 1 + _ ≤ _
                omega
              · intro d hd
                rcases List.mem_append.mp hd with hd | hd
                · rcases List.mem_append.mp hd with hd | hd
                  · exact mem d (List.mem_of_mem_take hd)
                  · cases List.mem_singleton.mp hd
                    exact mem _ mdx
                · exact mem d (List.mem_of_mem_drop hd)
          · refine ⟨_, rfl, _, rfl, _, rfl, a, xs, rfl, hsq, fun q1 n1 => ?_⟩
            rw [cut_to i0 i1]
            have q1p := hp4.ne n1
            have s5 : Same H4 (upd H4 q1 (.lst (xs.take i.toNat))) := same_new n1
            have h5 : upd H4 q1 (.lst (xs.take i.toNat)) q1 = some (.lst (xs.take i.toNat)) := upd_same
            generalize upd H4 q1 (.lst (xs.take i.toNat)) = H5 at s5 h5 ⊢
            have hp5 := hp4.same s5
            obtain ⟨o1, o2⟩ := okL_get hok.2 mdx
            refine ⟨_, rfl, _, rfl, _, rfl, a, _, _, _, rfl, rfl, sq_same s5 hsq, hx, p, x, c + 1 + 1 + 1, dx, rfl, hp5, rx.same s5, o1, docL_get hdoc mdx, by omega, by omega, fun H6 v' d' b6 hp6 r6 g6 => ⟨len_ok (by show 1 ≤ 1000; decide), fun q2 n2 => ?_⟩⟩
            have s7 : Same H6 (upd H6 q2 (.lst [v'])) := same_new n2
            have h7 : upd H6 q2 (.lst [v']) q2 = some (.lst [v']) := upd_same
            refine ⟨q1, q2, _, _, rfl, rfl, s7 _ _ (b6 _ _ q1p h5), h7, ?_, fun q3 n3 => ?_⟩
            · rw [List.length_take, sizeLine_eq]
              show _ + 1 ≤ _
              omega
            generalize upd H6 q2 (.lst [v']) = H7 at s7 h7 n3 ⊢
            have s8 : Same H7 (upd H7 q3 (.lst (xs.take i.toNat ++ [v']))) := same_new n3
            have h8 : upd H7 q3 (.lst (xs.take i.toNat ++ [v'])) q3 = some (.lst (xs.take i.toNat ++ [v'])) := upd_same
            generalize upd H7 q3 (.lst (xs.take i.toNat ++ [v'])) = H8 at s8 h8 ⊢
            have s68 := s7.trans s8
            have b8 : But p H4 H8 := (But.same s5).trans (b6.trans (But.same s68))
            have kp8 : Kp H4 H8 := kp_but hp4 b8
            refine ⟨_, rfl, ⟨_, rfl, _, _, rfl, rfl, _, rfl, a, xs, rfl, .inl (.inr ⟨o, kp8.fz _ _ _ (kp4.fz _ _ _ ha)⟩), fun q4 n4 => ?_⟩⟩
            rw [cut_from (by omega) (by omega)]
            have s9 : Same H8 (upd H8 q4 (.lst (xs.drop (i + 1).toNat))) := same_new n4
            have h9 : upd H8 q4 (.lst (xs.drop (i + 1).toNat)) q4 = some (.lst (xs.drop (i + 1).toNat)) := upd_same
            generalize upd H8 q4 (.lst (xs.drop (i + 1).toNat)) = H9 at s9 h9 ⊢
            refine ⟨q3, q4, _, _, rfl, rfl, s9 _ _ h8, h9, ?_, fun q5 n5 => ⟨q5, _, rfl, upd_same, True.intro, fun o => ?_⟩⟩
            · rw [List.length_append, List.length_take, List.length_drop, sizeLine_eq]
              show _ + 1 + _ ≤ _
              omega
            · have rl9 := RpL.keep (kp8.trans (Kp.same s9)) _ _ rl4
              refine fin H9 H9 q5 o ((ds.take i.toNat ++ [d']) ++ ds.drop (i + 1).toNat) _ _ (b4a.trans (b8.trans (But.same s9))) (hp6.same (s68.trans s9)) (by omega) n5 (rpL_app (rpL_app (rpL_take _ rl9) (RpL.cons (r6.same (s68.trans s9)) RpL.nil)) (rpL_drop _ rl9)) ?_ ?_
              · rw [List.length_append, List.length_append, List.length_take, List.length_drop]
                show _ + 1 + _ ≤ _
                omega
              · intro d hd
                rcases List.mem_append.mp hd with hd | hd
                · rcases List.mem_append.mp hd with hd | hd
                  · exact mem d (List.mem_of_mem_take hd)
                  · cases List.mem_singleton.mp hd
                    exact g6.up (by omega)
                · exact mem d (List.mem_of_mem_drop hd)
      · exact ⟨_, rfl, _, _, _, _, false, rfl, .ty _, rd0.keep kp2, rfl, _, rfl, iF ⟨_, rfl, .inr (anyQ H2 _ b2a hp2 (by omega))⟩⟩
  | false =>
    refine iF ⟨_, rfl, _, _, d, _, _, rfl, .ty _, rd, kit_m d, _, rfl, ?_⟩
    cases hM : isM d with
    | false => exact iF ⟨_, rfl, .inr (anyQ H c But.refl hp (by omega))⟩
    | true =>
      obtain ⟨kds, rfl⟩ := isM_dict hM
      have rd0 := rd
      obtain ⟨a, o, kvs, rfl, ha, rl⟩ := doc_dict rd hdoc
      simp only [okD, Bool.and_eq_true, decide_eq_true_eq] at hok
      simp only [PyData.depth] at hdp k
      have hdoc2 := hdoc
      rw [isDoc] at hdoc2
      have nlen := rpD_len rl
      have klen : (keyS kds).length = kvs.length := by
        have q := congrArg List.length (doc_keys rl hdoc2)
        simpa using q.symm
      refine iT ⟨_, rfl, fun e ne => ⟨a, e, o, kvs, rfl, rfl, by rw [upd_ne (ne_of_none ha ne)]; exact ha, upd_same, _, rfl, ?_⟩⟩
      have se : Same H (upd H e (.dK [])) := same_new ne
      generalize upd H e (.dK []) = H1 at se ⊢
      have hp1 := hp.same se
      have kpos : kvs.isEmpty = false → 0 < kvs.length := fun z => by cases kvs with | nil => cases z | cons _ _ => exact Nat.zero_lt_succ _
      cases hE : kvs.isEmpty with
      | true => exact iF (iF ⟨_, rfl, .inr (anyQ H1 c (But.same se) hp1 (by omega))⟩)
      | false =>
        have kpos := kpos hE
        refine iT ⟨_, rfl, p, c, 4, rfl, hp1, by omega, by decide, by decide, fun H2 r b2 hp2 r0 r1 => ⟨_, _, rfl, rfl, _, rfl, ?_⟩⟩
        have b2a : But p H H2 := (But.same se).trans b2
        have kp2 : Kp H H2 := kp_but hp b2a
        refine ite2 (fun hz => ?_) fun hz => ?_
        · refine ⟨_, rfl, a, kvs, keyS kds, rfl, .inr ⟨o, kp2.fz _ _ _ ha⟩, doc_keys rl hdoc2, by omega, fun ys f pm srt nf => ?_⟩
          have fp := hp2.ne nf
          have s3 : Same H2 (upd H2 f (.lst (ys.map V.str))) := same_new nf
          have h3 : upd H2 f (.lst (ys.map V.str)) f = some (.lst (ys.map V.str)) := upd_same
          change tSeq _ _ _ _ (upd H2 f (.lst (ys.map V.str)))
          generalize upd H2 f (.lst (ys.map V.str)) = H3 at s3 h3 ⊢
          have hp3 := hp2.same s3
          have yl : ys.length = kvs.length := by rw [pm.length_eq, klen]
          have ynil : ys.map V.str ≠ [] := by
            intro z
            have := congrArg List.length z
            simp at this
            rw [this] at yl
            simp at yl
            omega
          refine ⟨_, rfl, _, rfl, p, f, c + 1, ys.map V.str, rfl, hp3, by omega, SqL.of h3, fp, ynil, by rw [List.length_map]; omega, fun H4 v b4 hp4 hm => ?_⟩
          obtain ⟨y, my, rfl⟩ := List.mem_map.mp hm
          refine ⟨_, rfl, p, c + 1 + 1, 4, rfl, hp4, by omega, by decide, by decide, fun H5 pk b5 hp5 k0 k1 => ⟨len_ok (by show 2 ≤ 1000; decide), fun t nt => ?_⟩⟩
          have s6 : Same H5 (upd H5 t (.tup [.str y, .int pk])) := same_new nt
          refine ⟨t, _, rfl, SqT.of upd_same, rfl, _, _, rfl, _, _, rfl, rfl, ?_⟩
          have h6t : upd H5 t (.tup [.str y, .int pk]) t = some (.tup [.str y, .int pk]) := upd_same
          have b6a : But p H (upd H5 t (.tup [.str y, .int pk])) := b2a.trans ((But.same s3).trans (b4.trans (b5.trans (But.same s6))))
          have hp6 : PotAt (upd H5 t (.tup [.str y, .int pk])) p (c + 1 + 1 + 1) := hp5.same s6
          change tSeq _ _ _ _ (upd H5 t (.tup [.str y, .int pk]))
          generalize upd H5 t (.tup [.str y, .int pk]) = H6 at b6a hp6 ⊢
          have kp6 : Kp H H6 := kp_but hp b6a
          have ha6 := kp6.fz _ _ _ ha
          have rl6 := RpD.keep kp6 _ _ rl
          have memK : ∀ x d, (PyData.str x, d) ∈ kds → nmOk false x ∧ Gd 4 (PyData.depthKv kds + 2) false d := fun x d m => ⟨⟨(okK_get hok.2 m).1, fun z => nomatch z⟩, ok_mono (by decide) (okK_get hok.2 m).2.1, by have := (okK_get hok.2 m).2.2; omega, fun z => nomatch z⟩
          have finD : ∀ (Hx : Hp) (q : Addr) (ob : Obj) (more : List (Str × PyData)) (ks : List (Key × V)) (c' : Int), But p H Hx → PotAt Hx p c' → c' ≤ c + fb (n + 1) → Hx q = none → RpD Hx (strP more) ks → more.length ≤ 4 → (∀ x d, (x, d) ∈ more → nmOk false x ∧ Gd 4 (PyData.depthKv kds + 2) false d) →
              Q (.ref q) (upd (upd Hx q (.dK (mergeK [] ks))) q (.frz ob (.dK (mergeK [] ks)))) := fun Hx q ob more ks c' bx hpx hc' nq rr l g => by
            have qp := hpx.ne nq
            have nq0 : H q = none := by
              cases z : H q with
              | none => rfl
              | some o => rw [bx _ _ qp z] at nq; cases nq
            have kq : Kp Hx (upd (upd Hx q (.dK (mergeK [] ks))) q (.frz ob (.dK (mergeK [] ks)))) := by
              rw [upd_upd]
              exact Kp.new nq
            exact k _ _ (.dict (mergeS [] more)) (but_put nq0 (but_put nq0 bx)) (((hpx.put qp).put qp).up hc') (Rp.dct upd_same (RpD.keep kq _ _ (rpD_merge RpD.nil rr))) (Gd.merge (by simpa using l) rfl (fun k d m => by simp at m) g)
          have each : ∀ {i : Nat} {y z : V}, (kvs[i]?.map fun kv => kV kv.1) = some y → kvs[i]?.map Prod.snd = some z → ∃ (x : Str) (d : PyData), y = .str x ∧ (PyData.str x, d) ∈ kds ∧ ∀ Hx, Kp H Hx → Rp Hx d z := fun {i y z} ey ez => by
            cases hkv : kvs[i]? with
            | none => rw [hkv] at ey; cases ey
            | some kv =>
              obtain ⟨ky, v⟩ := kv
              rw [hkv] at ey ez
              cases ey
              cases ez
              obtain ⟨d, hd, rx⟩ := rpD_get rl hkv
              have m := List.mem_of_getElem? hd
              obtain ⟨x, ex⟩ := doc_str hdoc2 m
              cases ky with
              | inl j => simp [kD] at ex
              | inr x' => exact ⟨x', d, rfl, m, fun Hx kx => rx.keep kx⟩
          refine ⟨_, rfl, rfl, _, rfl, ite2 (fun hy => ?_) fun hy => ?_⟩
          · refine ⟨_, rfl, a, o, kvs, rfl, ha6, fun D nD => lc_it walk_items (fun j H7 => Same H6 H7 ∧ ∃ acc, H7 D = some (.lst acc) ∧ acc.length ≤ j ∧ ∀ (i : Nat) v, acc[i]? = some v → ∃ ta x u d, v = .ref ta ∧ H7 ta = some (.tup [.str x, u]) ∧ Rp H7 d u ∧ (PyData.str x, d) ∈ kds)
              ⟨same_new nD, [], upd_same, Nat.le_refl _, fun i v z => nomatch z⟩ (fun i H7 _ pv => pv.1 _ _ ha6) ?_ ?_⟩
            · rintro i v H7 H8 hi ⟨s7, acc, hD, al, ar⟩ ⟨t2, y2, z2, rfl, nt2, rfl, ey, ez⟩
              obtain ⟨x, d, rfl, m, rd2⟩ := each ey ez
              have s8 : Same H7 (upd H7 t2 (.tup [.str x, z2])) := same_new nt2
              have kp8 : Kp H (upd H7 t2 (.tup [.str x, z2])) := kp6.trans (Kp.same (s7.trans s8))
              refine ⟨t2, _, rfl, SqT.of upd_same, rfl, _, _, rfl, _, _, rfl, rfl, rfl, ?_⟩
              refine ⟨_, rfl, _, rfl, rfl, _, rfl, ite2 (fun hq => ?_) fun hq => ?_⟩
              · refine ⟨_, rfl, _, rfl, len_ok (by show 2 ≤ 1000; decide), fun t3 nt3 => ?_⟩
                have s9 : Same (upd H7 t2 (.tup [.str x, z2])) (upd (upd H7 t2 (.tup [.str x, z2])) t3 (.tup [.str x, z2])) := same_new nt3
                have hD9 := (s8.trans s9) _ _ hD
                have h9 : (upd (upd H7 t2 (.tup [.str x, z2])) t3 (.tup [.str x, z2])) t3 = some (.tup [.str x, z2]) := upd_same
                generalize upd (upd H7 t2 (.tup [.str x, z2])) t3 (.tup [.str x, z2]) = H9 at s9 hD9 h9 ⊢
                have kpD : Kp H9 (upd H9 D (.lst (acc ++ [.ref t3]))) := Kp.put hD9 (fun _ _ z => nomatch z) (fun _ z => nomatch z)
                refine ⟨acc, hD9, by rw [sizeLine_eq]; omega, same_put nD (s7.trans (s8.trans s9)), _, upd_same, by rw [List.length_append]; show acc.length + 1 ≤ _; omega, fun j v hv => ?_⟩
                by_cases hj : j < acc.length
                · rw [List.getElem?_append_left hj] at hv
                  obtain ⟨ta, x, u, d, h1, h2, h3, h4⟩ := ar j v hv
                  have kk := (Kp.same (s8.trans s9)).trans kpD
                  exact ⟨ta, x, u, d, h1, kk.tu _ _ h2, h3.keep kk, h4⟩
                · rw [List.getElem?_append_right (by omega)] at hv
                  have hj0 : j - acc.length = 0 := by
                    by_cases q : j - acc.length = 0
                    · exact q
                    · rw [List.getElem?_eq_none (by simp; omega)] at hv
                      cases hv
                  rw [hj0] at hv
                  cases hv
                  exact ⟨t3, x, z2, d, rfl, kpD.tu _ _ h9, rd2 _ (kp8.trans ((Kp.same s9).trans kpD)), m⟩
              · exact ⟨s7.trans s8, acc, s8 _ _ hD, by omega, fun j v hv => by
                  obtain ⟨ta, x, u, d, h1, h2, h3, h4⟩ := ar j v hv
                  exact ⟨ta, x, u, d, h1, s8 _ _ h2, h3.same s8, h4⟩⟩
            · rintro H7 ⟨s7, acc, hD, al, ar⟩
              obtain ⟨ps, ks, more, rfl, pr, rm, lm, gm⟩ := tups_of (K := K) (Pd := fun x d => (PyData.str x, d) ∈ kds) ar
              refine ⟨D, ps, ks, rfl, SqL.of hD, pr, fun q nq => ⟨q, _, rfl, upd_same, True.intro, fun ob => ?_⟩⟩
              exact finD H7 q ob more ks _ (b6a.trans (But.same s7)) (hp6.same s7) (by omega) nq rm (by omega) fun x d m => memK x d (gm x d m)
          refine ⟨_, rfl, rfl, _, rfl, ite2 (fun hy => ?_) fun hy => ?_⟩
          · refine ⟨_, rfl, a, o, kvs, rfl, ha6, fun H7 p1 ts s7 np1 h7 pr7 => ?_⟩
            have hp7 := hp6.same s7
            have p1p := hp6.ne np1
            refine ⟨_, rfl, len_ok (by show 4 ≤ 1000; decide), fun l nl => ?_⟩
            have s8 : Same H7 (upd H7 l (.lst [.str "x", .str "y", .str "k", .str "q"])) := same_new nl
            have h8 : (upd H7 l (.lst [.str "x", .str "y", .str "k", .str "q"])) l = some (.lst [.str "x", .str "y", .str "k", .str "q"]) := upd_same
            have lp := hp7.ne nl
            refine ⟨p, l, c + 1 + 1 + 1, _, rfl, hp7.same s8, by omega, SqL.of h8, lp, by simp, by decide, fun H9 v b9 hp9 hm => ?_⟩
            generalize upd H7 l (.lst [.str "x", .str "y", .str "k", .str "q"]) = H8 at s8 h8 b9
            have hx2 : ∃ z : Str, v = .str z ∧ nmOk false z := by
              simp only [List.mem_cons, List.not_mem_nil, or_false] at hm
              rcases hm with rfl | rfl | rfl | rfl <;> exact ⟨_, rfl, by decide +kernel, fun z => nomatch z⟩
            obtain ⟨z, rfl, nz⟩ := hx2
            refine ⟨_, rfl, .inl ⟨p, c + 1 + 1 + 1 + 1, rfl, hp9, by show c + 1 + 1 + 1 + 1 + 13 < _; omega, fun H10 u d b10 hp10 r10 g10 => ⟨len_ok (by show 2 ≤ 1000; decide), fun t1 nt1 => ⟨len_ok (by show 1 ≤ 1000; decide), fun q1 nq1 => ?_⟩⟩⟩⟩
            have s11 : Same H10 (upd H10 t1 (.tup [.str z, u])) := same_new nt1
            have h11 : (upd H10 t1 (.tup [.str z, u])) t1 = some (.tup [.str z, u]) := upd_same
            have s12 : Same (upd H10 t1 (.tup [.str z, u])) (upd (upd H10 t1 (.tup [.str z, u])) q1 (.lst [.ref t1])) := same_new nq1
            have h12 : (upd (upd H10 t1 (.tup [.str z, u])) q1 (.lst [.ref t1])) q1 = some (.lst [.ref t1]) := upd_same
            have bb : But p H7 (upd (upd H10 t1 (.tup [.str z, u])) q1 (.lst [.ref t1])) := (But.same s8).trans (b9.trans (b10.trans (But.same (s11.trans s12))))
            have r12 := r10.same (s11.trans s12)
            have h11a := s12 _ _ h11
            have hp12 := hp10.same (s11.trans s12)
            generalize upd (upd H10 t1 (.tup [.str z, u])) q1 (.lst [.ref t1]) = H12 at h12 bb r12 h11a hp12 ⊢
            have kp12 : Kp H7 H12 := kp_but hp7 bb
            have tl : ts.length = kvs.length := Paired.length pr7
            refine ⟨p1, q1, _, _, rfl, rfl, bb _ _ p1p h7, h12, ?_, fun q2 nq2 => ?_⟩
            · rw [List.length_map, sizeLine_eq]
              show _ + 1 ≤ _
              omega
            have s13 : Same H12 (upd H12 q2 (.lst (ts.map V.ref ++ [.ref t1]))) := same_new nq2
            have h13 : (upd H12 q2 (.lst (ts.map V.ref ++ [.ref t1]))) q2 = some (.lst (ts.map V.ref ++ [.ref t1])) := upd_same
            generalize upd H12 q2 (.lst (ts.map V.ref ++ [.ref t1])) = H13 at s13 h13 ⊢
            refine ⟨q2, ts ++ [t1], kvs ++ [(.inr z, u)], rfl, SqL.of (by rw [h13, List.map_append]; rfl), ?_, fun q nq => ⟨q, _, rfl, upd_same, True.intro, fun ob => ?_⟩⟩
            · exact pair_app (pair_imp (fun a b h => SqT.of (s13 _ _ (kp12.tu _ _ h))) pr7) (.cons (SqT.of (s13 _ _ h11a)) .nil)
            · refine finD H13 q ob (moreOf kds ++ [(z, d)]) _ _ (b6a.trans ((But.same s7).trans (bb.trans (But.same s13)))) (hp12.same s13) (by show c + 1 + 1 + 1 + 1 + 13 ≤ _; omega) nq ?_ ?_ ?_
              · rw [strP, List.map_append]
                refine rpD_app ?_ (RpD.cons (k := .inr z) (r12.same s13) RpD.nil)
                have e := more_str hdoc2
                rw [strP] at e
                rw [e]
                exact RpD.keep ((Kp.same s7).trans (kp12.trans (Kp.same s13))) _ _ rl6
              · rw [List.length_append]
                have := more_len kds
                show _ + 1 ≤ 4
                omega
              · intro x e m
                rcases List.mem_append.mp m with m | m
                · exact memK x e (more_mem m)
                · cases List.mem_singleton.mp m
                  exact ⟨nz, (g10.weak.wide (by decide)).up (by show 1 ≤ _; omega)⟩
          · have m1 := pm.mem_iff.mp my
            obtain ⟨v, hv⟩ : ∃ v, valV kvs (.inr y) = some v := by
              cases hv : valV kvs (.inr y) with
              | none => exact absurd (keyS_look m1 hdoc2) (by rw [rpD_val_none rl hv]; simp)
              | some v => exact ⟨v, rfl⟩
            obtain ⟨e0, e1, e2, e3⟩ := rpD_val rl6 hv
            obtain ⟨q1, q2, q3⟩ := okK_get hok.2 e3
            have hg : DGet H6 a (kV (.inr y)) (some v) := .inl ⟨kvs, .inr y, .inr ⟨o, ha6⟩, rfl, hv.symm⟩
            refine ⟨_, rfl, _, rfl, _, rfl, a, v, rfl, hg, p, v, c + 1 + 1 + 1, e0, rfl, hp6, e2, q2, (docK_get hdoc2 e3).2, by omega, by omega, fun H7 v' d' b7 hp7 r7 g7 => ?_⟩
            have b7a := b6a.trans b7
            have kp7 : Kp H H7 := kp_but hp b7a
            have ha7 := kp7.fz _ _ _ ha
            refine ⟨_, rfl, a, o, kvs, rfl, ha7, fun D nD => lc_gen walk_items (fun j H8 => Same H7 H8) (fun i v H8 => ∃ ta x u d, v = .ref ta ∧ H8 ta = some (.tup [.str x, u]) ∧ Rp H8 d u ∧ (nmOk false x ∧ Gd 4 (PyData.depthKv kds + 2) false d)) (fun i H8 _ _ s8 _ => same_put nD s8)
              (fun i v H2 H3 ⟨a, x, u, d, h1, h2, h3, h4⟩ kp => ⟨a, x, u, d, h1, kp.tu _ _ h2, h3.keep kp, h4⟩) (by omega) (same_new nD) (fun i H8 _ s8 => s8 _ _ ha7) ?_ ?_⟩
            · rintro i w2 H8 H9 acc hi s8 hD ⟨t2, y2, z2, rfl, nt2, rfl, ey, ez⟩ Qc kc
              obtain ⟨x, d, rfl, m, rd2⟩ := each ey ez
              have s9 : Same H8 (upd H8 t2 (.tup [.str x, z2])) := same_new nt2
              have kp9 : Kp H (upd H8 t2 (.tup [.str x, z2])) := kp7.trans (Kp.same (s8.trans s9))
              refine ⟨t2, _, rfl, SqT.of upd_same, rfl, _, _, rfl, _, _, rfl, rfl, rfl, ?_⟩
              have done : ∀ (u : V) (e : PyData), Rp (upd H8 t2 (.tup [.str x, z2])) e u → Gd 4 (PyData.depthKv kds + 2) false e → ∀ t3, (upd H8 t2 (.tup [.str x, z2])) t3 = none → Qc (.ref t3) (upd (upd H8 t2 (.tup [.str x, z2])) t3 (.tup [.str x, u])) := fun u e re ge t3 nt3 => by
                have s10 : Same (upd H8 t2 (.tup [.str x, z2])) (upd (upd H8 t2 (.tup [.str x, z2])) t3 (.tup [.str x, u])) := same_new nt3
                exact kc _ _ ((s9.trans s10) _ _ hD) (Kp.same (s9.trans s10)) (s8.trans (s9.trans s10)) ⟨t3, x, u, e, rfl, upd_same, re.same s10, (memK x d m).1, ge⟩
              refine ⟨_, rfl, _, rfl, _, rfl, rfl, _, rfl, ite2 (fun hq => ?_) fun hq => ?_⟩
              · exact ⟨_, rfl, len_ok (by show 2 ≤ 1000; decide), fun t3 nt3 => done v' d' (r7.same (s8.trans s9)) (g7.up (by omega)) t3 nt3⟩
              · exact ⟨_, rfl, len_ok (by show 2 ≤ 1000; decide), fun t3 nt3 => done z2 d (rd2 _ kp9) (memK x d m).2 t3 nt3⟩
            · intro H8 xs s8 hD hl8 hr8
              obtain ⟨ps, ks, more, rfl, pr, rm, lm, gm⟩ := tups_of (K := K) hr8
              refine ⟨D, ps, ks, rfl, SqL.of hD, pr, fun q nq => ⟨q, _, rfl, upd_same, True.intro, fun ob => ?_⟩⟩
              exact finD H8 q ob more ks _ (b7a.trans (But.same s8)) (hp7.same s8) (by omega) nq rm (by omega) gm
        · exact ⟨_, rfl, .inr (anyQ H2 _ b2a hp2 (by omega))⟩
theorem ok_bent (T : Tx P K mg) : ∀ n : Nat, FnOk P w K mg base CX0 (n + 8) T.a__law_bent T.fd__law_bent ["_law_pot", "_law_document"] (spBent n)
  | 0 => ⟨fun vs H Q E h => by
      obtain ⟨_, _, _, _, _, _, _, _, _, z, _⟩ := h
      exact absurd z (Nat.not_lt_zero _), fun A outer s H args us vs Q E hr e0 hb r h => by
      obtain ⟨_, _, _, _, _, _, _, _, _, z, _⟩ := h
      exact absurd z (Nat.not_lt_zero _)⟩
  | n + 1 => bent_step T (ok_bent T n)
end
end K00
end
section
set_option Elab.async false
set_option linter.all false
set_option maxRecDepth 100000
set_option maxHeartbeats 8000000
set_option pp.maxSteps 700
namespace K00
open PySem PySem.Spec PyProof.Rows L2 Tg
local macro_rules | `(tactic| walk_at "c") => `(tactic| first | assumption | trivial | omega | (constructor <;> omega) | decide | exact len_ok (Nat.le_of_ble_eq_true rfl))
local macro_rules | `(tactic| walk_at "sq") => `(tactic| first | exact SqL.of (by assumption) | exact SqL.of upd_same | assumption | exact SqT.of (by assumption) | exact SqT.of upd_same | exact .inl (SqL.of (by assumption)) | exact .inr (SqT.of (by assumption)))
local macro_rules | `(tactic| walk_at "r1") => `(tactic| first
  | refine ⟨_, rfl, ?_⟩
  | refine ⟨_, _, rfl, rfl, ?_⟩
  | refine .inl ⟨_, rfl, ?_⟩
  | refine .inr ⟨_, rfl, ?_⟩
  | (apply Exists.intro; apply Exists.intro; apply Exists.intro; apply Exists.intro; refine And.intro rfl (And.intro rfl (And.intro ?sq ?_)); (case sq => walk_at "sq"); refine And.intro rfl ?_)
  | (apply Exists.intro; apply Exists.intro; apply Exists.intro; apply Exists.intro; refine And.intro rfl (And.intro rfl (And.intro ?hp ?_)); (case hp => first | assumption | exact upd_same); refine And.intro rfl ?_)
  | (refine And.intro ?c ?_; (case c => walk_at "c")))
local macro_rules | `(tactic| walk_at "r") => `(tactic| repeat walk_at "r1")
/-- the same, within the same bounds -/
structure Tn (B : Nat) (d e : PyData) : Prop where
  ok : okD B e = true
  dc : isDoc e = true
  dp : e.depth ≤ d.depth
  sm : sameD d e = true
theorem tups_ix {K : PySem.W.Frag} {H : Hp} : ∀ {xs : List V} {Pd : Nat → Str → PyData → Prop}, (∀ (i : Nat) v, xs[i]? = some v → ∃ a x u d, v = .ref a ∧ H a = some (.tup [.str x, u]) ∧ Rp H d u ∧ Pd i x d) →
    ∃ (ps : List Addr) (kvs : List (Key × V)) (more : List (Str × PyData)), xs = ps.map V.ref ∧ Paired (fun p kv => SqT K H p [kV kv.1, kv.2]) ps kvs ∧ RpD H (strP more) kvs ∧ more.length = xs.length ∧ ∀ (i : Nat) x d, more[i]? = some (x, d) → Pd i x d
  | [], Pd, _ => ⟨[], [], [], rfl, .nil, RpD.nil, rfl, fun i x d z => by simp at z⟩
  | x :: xs, Pd, h => by
    obtain ⟨a, z, u, d, rfl, ha, rd, pd⟩ := h 0 x rfl
    obtain ⟨ps, kvs, more, e, p, r, l, q⟩ := tups_ix (K := K) (xs := xs) (Pd := fun i => Pd (i + 1)) fun i v hv => h (i + 1) v (by simpa using hv)
    refine ⟨a :: ps, (.inr z, u) :: kvs, (z, d) :: more, by rw [e]; rfl, .cons (SqT.of ha) p, RpD.cons (k := .inr z) rd r, by simp [l], fun i y e m => ?_⟩
    cases i with
    | zero => simp at m; obtain ⟨rfl, rfl⟩ := m; exact pd
    | succ i => exact q i y e (by simpa using m)
theorem keyS_strP : ∀ {m : List (Str × PyData)}, keyS (strP m) = m.map (·.1)
  | [] => rfl
  | (x, d) :: r => by
    show keyS ((.str x, d) :: strP r) = _
    simp only [keyS, List.map_cons, keyS_strP (m := r)]
theorem merge_new : ∀ {m : List (Str × PyData)} {kds : List (PyData × PyData)}, (keyS kds ++ m.map (·.1)).Nodup → mergeS kds m = kds ++ strP m
  | [], kds, _ => by simp [mergeS, strP]
  | (x, d) :: m, kds, h => by
    have hx : x ∉ keyS kds := fun z => (List.nodup_append.mp h).2.2 x z x (by simp) rfl
    have e : putS kds x d = kds ++ [(.str x, d)] := by
      unfold putS
      rw [if_neg]
      rw [any_keyS]
      exact hx
    show mergeS (putS kds x d) m = _
    rw [e, merge_new (m := m) (kds := kds ++ [((PyData.str x : PyData), d)])]
    · simp [strP]
    · rw [keyS_app]
      simpa [keyS] using h
theorem turned_dict {B : Nat} {mk more : List (Str × PyData)} (ok : okD B (.dict (strP mk)) = true) (doc : isDoc (.dict (strP mk)) = true) (hl : more.length = mk.length)
    (hm : ∀ (i : Nat) x e, more[i]? = some (x, e) → ∃ d, mk[mk.length - 1 - i]? = some (x, d) ∧ Tn B d e) : Tn B (.dict (strP mk)) (.dict (mergeS [] more)) := by
  simp only [okD, Bool.and_eq_true, decide_eq_true_eq] at ok
  rw [isDoc] at doc
  have nd := keyS_nodup ok.1.2
  rw [keyS_strP] at nd
  have ek : more.map (·.1) = (mk.map (·.1)).reverse := by
    apply List.ext_getElem?
    intro i
    by_cases hi : i < more.length
    · rw [List.getElem?_reverse (by rw [List.length_map]; omega), List.getElem?_map, List.getElem?_map, List.length_map, List.getElem?_eq_getElem hi]
      obtain ⟨d, e1, _⟩ := hm i more[i].1 more[i].2 (by rw [List.getElem?_eq_getElem hi])
      rw [e1]
      rfl
    · rw [List.getElem?_eq_none (by rw [List.length_map]; omega), List.getElem?_eq_none (by rw [List.length_reverse, List.length_map]; omega)]
  have ndm : (more.map (·.1)).Nodup := by rw [ek]; exact (List.reverse_perm _).nodup_iff.mpr nd
  have em : mergeS [] more = strP more := by
    rw [merge_new (by simpa [keyS] using ndm)]
    rfl
  rw [em]
  have ndk : ndK (strP more) = true := nd_of (by rw [keyS_strP]; exact ndm)
  have slen : (strP more).length = (strP mk).length := by simp [strP, hl]
  have mem : ∀ k e, (k, e) ∈ strP more → ∃ x d, k = .str x ∧ (PyData.str x, d) ∈ strP mk ∧ Tn B d e := fun k e m => by
    obtain ⟨⟨x, e'⟩, m', q⟩ := List.mem_map.mp m
    cases q
    obtain ⟨i, hi, ei⟩ := List.mem_iff_getElem.mp m'
    obtain ⟨d, h1, h2⟩ := hm i x e' (by rw [List.getElem?_eq_getElem hi, ei])
    exact ⟨x, d, rfl, List.mem_map.mpr ⟨(x, d), List.mem_of_getElem? h1, rfl⟩, h2⟩
  refine ⟨?_, ?_, ?_, ?_⟩
  · simp only [okD, Bool.and_eq_true, decide_eq_true_eq]
    refine ⟨⟨by omega, ndk⟩, okK_of fun k e m => ?_⟩
    obtain ⟨x, d, rfl, md, t⟩ := mem k e m
    exact ⟨(okK_get ok.2 md).1, t.ok⟩
  · rw [isDoc]
    refine docK_of fun k e m => ?_
    obtain ⟨x, d, rfl, md, t⟩ := mem k e m
    exact ⟨(docK_get doc md).1, t.dc⟩
  · simp only [PyData.depth]
    have := depthKv_le (m := PyData.depthKv (strP mk)) (ds := strP more) fun k e m => by
      obtain ⟨x, d, rfl, md, t⟩ := mem k e m
      have := (okK_get ok.2 md).2.2
      have := t.dp
      exact ⟨by simp [PyData.depth], by omega⟩
    omega
  · have hs : sameK (strP mk) (strP more) = true := by
      rw [sameK_all, List.all_map, List.all_eq_true]
      rintro ⟨k, d⟩ m
      obtain ⟨⟨x, d'⟩, m', q⟩ := List.mem_map.mp m
      cases q
      obtain ⟨j, hj, ej⟩ := List.mem_iff_getElem.mp m'
      have hi : mk.length - 1 - j < more.length := by omega
      obtain ⟨d2, h1, h2⟩ := hm (mk.length - 1 - j) more[mk.length - 1 - j].1 more[mk.length - 1 - j].2 (by rw [List.getElem?_eq_getElem hi])
      have e2 : mk.length - 1 - (mk.length - 1 - j) = j := by omega
      rw [e2, List.getElem?_eq_getElem hj, ej] at h1
      have h1 := Option.some.inj h1
      have hx : more[mk.length - 1 - j].1 = x := (congrArg Prod.fst h1).symm
      have hd : d2 = d' := (congrArg Prod.snd h1).symm
      subst hd
      refine sameOne_of (e := more[mk.length - 1 - j].2) (nd_look ndk (List.mem_map.mpr ⟨more[mk.length - 1 - j], List.getElem_mem hi, ?_⟩)) h2.sm
      rw [hx]
    simp [sameD, hs, slen]
theorem turned_list {B : Nat} {ds es : List PyData} (ok : okD B (.list ds) = true) (hl : es.length = ds.length) (hm : ∀ (i : Nat) e, es[i]? = some e → Tn B (ds.getD i .none) e) : Tn B (.list ds) (.list es) := by
  simp only [okD, Bool.and_eq_true, decide_eq_true_eq] at ok
  have mem : ∀ e ∈ es, ∃ d ∈ ds, Tn B d e := fun e m => by
    obtain ⟨i, hi, ei⟩ := List.mem_iff_getElem.mp m
    have q := hm i e (by rw [List.getElem?_eq_getElem hi, ei])
    have hi2 : i < ds.length := by omega
    rw [List.getD_eq_getElem?_getD, List.getElem?_eq_getElem hi2] at q
    exact ⟨ds[i], List.getElem_mem hi2, q⟩
  refine ⟨?_, ?_, ?_, ?_⟩
  · simp only [okD, Bool.and_eq_true, decide_eq_true_eq]
    exact ⟨by omega, okL_of fun e m => by obtain ⟨d, _, t⟩ := mem e m; exact t.ok⟩
  · rw [isDoc]
    exact docL_of fun e m => by obtain ⟨d, _, t⟩ := mem e m; exact t.dc
  · simp only [PyData.depth]
    have := depthAll_le (m := PyData.depthAll ds) (ts := es) fun e m => by
      obtain ⟨d, md, t⟩ := mem e m
      have := (okL_get ok.2 md).2
      have := t.dp
      omega
    omega
  · have hs : sameL ds es = true := by
      rw [sameL_all hl.symm, all_range]
      intro i hi
      have hi2 : i < es.length := by omega
      have q := hm i es[i] (List.getElem?_eq_getElem hi2)
      have e2 : es.getD i .none = es[i] := by rw [List.getD_eq_getElem?_getD, List.getElem?_eq_getElem hi2]; rfl
      rw [e2]
      exact q.sm
    simp [sameD, hs, hl]
def spTurned (B n : Nat) : Sp := fun vs H Q _ => ∃ (v : V) (d : PyData), vs = [v] ∧ Rp H d v ∧ okD B d = true ∧ isDoc d = true ∧ d.depth < n ∧ ∀ (H' : Hp) (v' : V) (d' : PyData), Same H H' → Rp H' d' v' → Tn B d d' → Q v' H'
section
variable {P : Program} {w : World} {K : PySem.W.Frag} {mg : Str → Option Value} {base : Heap}
theorem turned_step (T : Tx P K mg) {B n k : Nat} (hB : B ≤ 50) (G__law_turned : FnOk P w K mg base CX0 (k + 1) T.a__law_turned T.fd__law_turned ["_law_document"] (spTurned B n)) : FnOk P w K mg base CX0 (k + 2) T.a__law_turned T.fd__law_turned ["_law_document"] (spTurned B (n + 1)) := by
  refine T.F__law_turned.ok sc__law_turned (fun vs H Q E h => ?_) (fun cdv A outer s H vs Q E hr h => ?_)
  · obtain ⟨v, d, rfl, _⟩ := h
    rfl
  obtain ⟨v, d, rfl, rd, hok, hdoc, hdp, k⟩ := h
  refine ⟨_, (pss_cons (ps_if (pt_val (pe_callB call_isD (by rfl) T.n_isinstance PyProof.Rows.Boot.«isinstance» (pa_cons (pv 0) (pa_cons (pe_bltn (v := .ty "list") (by rfl) T.n_list PyProof.Rows.Boot.«list» rfl) pa_nil)))) (pss_one (ps_ret (pe_fz (pe_lc (own := [("_law_part", 1)]) (g := gName 1) (tt := tYes) (by rfl) sc__law_turned.nd (pi_list (pv 0)) (blkOk_by (own := [("_law_part", 1)]) (N := ["_law_document", "_law_part", "_law_field"]) (sc := defScope s__law_turned) (by decide +kernel)) (fun _ _ _ _ _ => (pg_name (i := 1) sc__law_turned.nd rfl (Or.inl rfl))) (fun _ _ _ _ _ => pts_nil) (fun _ _ _ _ _ => (pe_call G__law_turned (hr.mono (by first | decide | omega)) (by rfl) T.m__law_turned T.F__law_turned.kp T.b__law_turned .nil pass0 (pa_cons (pv 1) pa_nil))))))) pss_nil)
      (pss_cons (ps_if (pt_val (pe_callB call_isD (by rfl) T.n_isinstance PyProof.Rows.Boot.«isinstance» (pa_cons (pv 0) (pa_cons (pe_bltn (v := .ty "dict") (by rfl) T.n_dict PyProof.Rows.Boot.«dict» rfl) pa_nil)))) (pss_one (ps_ret (pe_fz (pe_callTy (call_dictP rfl) (by rfl) T.n_dict PyProof.Rows.Boot.«dict» (pa_cons (pe_lc (own := [("_law_field", 2), ("_law_part", 1)]) (g := gTup K 2 (gCons (gName 2) (gCons (gName 1) (gNil)))) (tt := tYes) (by rfl) sc__law_turned.nd (pi_list (pe_revL (pe_liF rfl (pv 0) (by rfl) T.n_list PyProof.Rows.Boot.«list»))) (blkOk_by (own := [("_law_field", 2), ("_law_part", 1)]) (N := ["_law_document", "_law_part", "_law_field"]) (sc := defScope s__law_turned) (by decide +kernel)) (fun _ _ _ _ _ => (pg_tup rfl (pgs_cons (pg_name (i := 2) sc__law_turned.nd rfl (Or.inl rfl)) (pgs_cons (pg_name (i := 1) sc__law_turned.nd rfl (Or.inl rfl)) pgs_nil)))) (fun _ _ _ _ _ => pts_nil) (fun _ _ _ _ _ => (pe_tup (pa_cons (pv 2) (pa_cons (pe_call G__law_turned (hr.mono (by first | decide | omega)) (by rfl) T.m__law_turned T.F__law_turned.kp T.b__law_turned .nil pass0 (pa_cons (pv 1) pa_nil)) pa_nil))))) pa_nil))))) pss_nil)
      (pss_one (ps_ret (pv 0))))), ?_⟩
  have rd0 := rd
  refine ⟨_, rfl, _, _, d, _, _, rfl, .ty _, rd, kit_l d, _, rfl, ?_⟩
  cases d with
  | tuple ds => simp [isDoc] at hdoc
  | list ds =>
    refine iT ?_
    simp only [Rp] at rd
    obtain ⟨a, o, xs, rfl, ha, rl⟩ := rd
    have hok0 := hok
    simp only [okD, Bool.and_eq_true, decide_eq_true_eq] at hok
    simp only [PyData.depth] at hdp
    rw [isDoc] at hdoc
    have hlen := rpL_len rl
    have hsq : SqL K H a xs := .inl (.inr ⟨o, ha⟩)
    refine ⟨_, rfl, a, rfl, ⟨xs, hsq⟩, fun D nD => lc_gen (walk_list (xs := xs)) (fun _ H2 => Same H H2) (fun i v H2 => ∃ t, Tn B (ds.getD i .none) t ∧ Rp H2 t v) (fun _ _ _ _ s2 _ => same_put nD s2) (fun i v H2 H3 ⟨t, i1, r1⟩ kp => ⟨t, i1, r1.keep kp⟩) (by omega) (same_new nD) (fun i H2 _ s2 => sq_same s2 hsq) ?_ ?_⟩
    · rintro i x H2 H3 acc hi s2 hD ⟨rfl, hx⟩ Qc kc
      obtain ⟨d, hd, rx⟩ := rpL_get rl hx
      obtain ⟨o1, o2⟩ := okL_get hok.2 (List.mem_of_getElem? hd)
      have ed : ds.getD i .none = d := by rw [List.getD_eq_getElem?_getD, hd]; rfl
      rw [ed] at kc
      exact ⟨rfl, _, rfl, x, d, rfl, rx.same s2, o1, docL_get hdoc (List.mem_of_getElem? hd), by omega, fun H4 u t s4 r4 tn => kc u H4 (s4 _ _ hD) (Kp.same s4) (s2.trans s4) ⟨t, tn, r4⟩⟩
    · intro H2 vs s2 hD hl hr2
      obtain ⟨ts, rts, lts, its⟩ := rpL_of hr2
      refine ⟨D, _, rfl, hD, True.intro, fun ob => ?_⟩
      have kp : Kp H2 (upd H2 D (.frz ob (.lst vs))) := Kp.put hD (fun _ _ z => nomatch z) (fun _ z => nomatch z)
      exact k _ _ (.list ts) (same_put nD s2) (Rp.lst upd_same (RpL.keep kp _ _ rts)) (turned_list hok0 (by omega) its)
  | dict kds =>
    refine iF ?_
    obtain ⟨a, o, kvs, rfl, ha, rl⟩ := doc_dict rd hdoc
    have hok0 := hok
    simp only [okD, Bool.and_eq_true, decide_eq_true_eq] at hok
    simp only [PyData.depth] at hdp
    have hdoc2 := hdoc
    rw [isDoc] at hdoc2
    have nlen := rpD_len rl
    have emk := more_str hdoc2
    have mlen : (moreOf kds).length = kds.length := by
      have q := congrArg List.length emk
      simpa [strP] using q
    refine ⟨_, rfl, _, _, _, _, true, rfl, .ty _, rd0, rfl, _, rfl, iT ?_⟩
    refine ⟨_, rfl, a, o, kvs, rfl, ha, fun H1 p1 ts s1 np1 h1 pr1 => ⟨p1, _, rfl, SqL.of h1, fun q nq => ⟨q, rfl, ⟨_, SqL.of upd_same⟩, fun D nD => ?_⟩⟩⟩
    have s2 : Same H1 (upd H1 q (.lst (ts.map V.ref).reverse)) := same_new nq
    have h2 : upd H1 q (.lst (ts.map V.ref).reverse) q = some (.lst (ts.map V.ref).reverse) := upd_same
    generalize upd H1 q (.lst (ts.map V.ref).reverse) = H2 at s2 h2 nD ⊢
    have tl : ts.length = kvs.length := Paired.length pr1
    refine lc_gen (walk_list (xs := (ts.map V.ref).reverse)) (fun _ H3 => Same H2 H3) (fun i v H3 => ∃ ta x u e, v = .ref ta ∧ H3 ta = some (.tup [.str x, u]) ∧ Rp H3 e u ∧ ∃ d, (moreOf kds)[(moreOf kds).length - 1 - i]? = some (x, d) ∧ Tn B d e) (fun _ _ _ _ s _ => same_put nD s)
      (fun i v H2 H3 ⟨a, x, u, d, h1, h2, h3, h4⟩ kp => ⟨a, x, u, d, h1, kp.tu _ _ h2, h3.keep kp, h4⟩) (by rw [List.length_reverse, List.length_map]; omega) (same_new nD) (fun i H3 _ s => SqL.of (s _ _ h2)) ?_ ?_
    · rintro i x H3 H4 acc hi s3 hD ⟨rfl, hx⟩ Qc kc
      rw [List.length_reverse, List.length_map] at hi
      rw [List.getElem?_reverse (by rw [List.length_map]; exact hi), List.length_map, List.getElem?_map] at hx
      cases ht : ts[ts.length - 1 - i]? with
      | none => rw [ht] at hx; cases hx
      | some t =>
        rw [ht] at hx
        cases hx
        obtain ⟨⟨ky, v⟩, hkv, hta⟩ := LiI.paired_get pr1 ht
        obtain ⟨d, hd, rx⟩ := rpD_get rl hkv
        have m := List.mem_of_getElem? hd
        obtain ⟨x, ex⟩ := doc_str hdoc2 m
        cases ky with
        | inl j => simp [kD] at ex
        | inr z =>
          have hmk : (moreOf kds)[(moreOf kds).length - 1 - i]? = some (z, d) := by
            have q : (strP (moreOf kds))[ts.length - 1 - i]? = some (.str z, d) := by rw [emk]; exact hd
            rw [strP, List.getElem?_map] at q
            have e1 : (moreOf kds).length - 1 - i = ts.length - 1 - i := by omega
            rw [e1]
            cases hq : (moreOf kds)[ts.length - 1 - i]? with
            | none => rw [hq] at q; cases q
            | some w =>
              rw [hq] at q
              obtain ⟨w1, w2⟩ := w
              simp at q
              rw [q.1, q.2]
          obtain ⟨q1, q2, q3⟩ := okK_get hok.2 m
          have rx4 : Rp H4 d v := rx.same (s1.trans (s2.trans s3))
          have ht4 : H4 t = some (.tup [.str z, v]) := s3 _ _ (s2 _ _ hta)
          refine ⟨t, _, rfl, SqT.of ht4, rfl, _, _, rfl, _, _, rfl, rfl, rfl, ?_⟩
          refine ⟨_, rfl, _, rfl, v, d, rfl, rx4, q2, (docK_get hdoc2 m).2, by omega, fun H5 u e s5 r5 tn => ⟨len_ok (by show 2 ≤ 1000; decide), fun t3 nt3 => ?_⟩⟩
          have s6 : Same H5 (upd H5 t3 (.tup [.str z, u])) := same_new nt3
          exact kc _ _ ((s5.trans s6) _ _ hD) (Kp.same (s5.trans s6)) (s3.trans (s5.trans s6)) ⟨t3, z, u, e, rfl, upd_same, r5.same s6, d, hmk, tn⟩
    · intro H3 xs s3 hD hl3 hr3
      rw [List.length_reverse, List.length_map] at hl3
      obtain ⟨ps, ks, more, rfl, pr, rm, lm, gm⟩ := tups_ix (K := K) hr3
      refine ⟨D, ps, ks, rfl, SqL.of hD, pr, fun q2 nq2 => ⟨q2, _, rfl, upd_same, True.intro, fun ob => ?_⟩⟩
      have kq : Kp H3 (upd (upd H3 q2 (.dK (mergeK [] ks))) q2 (.frz ob (.dK (mergeK [] ks)))) := by
        rw [upd_upd]
        exact Kp.new nq2
      refine k _ _ (.dict (mergeS [] more)) (s1.trans (s2.trans (s3.trans (same_upd2 nq2)))) (Rp.dct upd_same (RpD.keep kq _ _ (rpD_merge RpD.nil rm))) ?_
      rw [← emk] at hok0 hdoc ⊢
      exact turned_dict hok0 hdoc (by omega) gm
  | _ => exact iF ⟨_, rfl, _, _, _, _, false, rfl, .ty _, rd0, rfl, _, rfl, iF ⟨_, rfl, k H _ _ (Same.refl H) rd0 ⟨hok, hdoc, Nat.le_refl _, by simp [sameD]⟩⟩⟩
theorem ok_turned (T : Tx P K mg) {B : Nat} (hB : B ≤ 50) : ∀ n : Nat, FnOk P w K mg base CX0 (n + 1) T.a__law_turned T.fd__law_turned ["_law_document"] (spTurned B n)
  | 0 => ⟨fun vs H Q E h => by
      obtain ⟨_, _, _, _, _, _, z, _⟩ := h
      exact absurd z (Nat.not_lt_zero _), fun A outer s H args us vs Q E hr e0 hb r h => by
      obtain ⟨_, _, _, _, _, _, z, _⟩ := h
      exact absurd z (Nat.not_lt_zero _)⟩
  | n + 1 => turned_step T hB (ok_turned T hB n)
end
end K00
end
section
set_option Elab.async false
set_option linter.all false
set_option maxRecDepth 100000
set_option maxHeartbeats 8000000
set_option pp.maxSteps 900
namespace K00
open PySem PySem.Spec PyProof.Rows L2 Tg LamX
local macro_rules | `(tactic| walk_at "c") => `(tactic| first | assumption | trivial | omega | (constructor <;> omega) | decide | exact len_ok (Nat.le_of_ble_eq_true rfl))
local macro_rules | `(tactic| walk_at "sq") => `(tactic| first | exact SqL.of (by assumption) | exact SqL.of upd_same | assumption | exact SqT.of (by assumption) | exact SqT.of upd_same | exact .inl (SqL.of (by assumption)) | exact .inr (SqT.of (by assumption)))
local macro_rules | `(tactic| walk_at "r1") => `(tactic| first
  | refine ⟨_, rfl, ?_⟩
  | refine ⟨_, _, rfl, rfl, ?_⟩
  | refine .inl ⟨_, rfl, ?_⟩
  | refine .inr ⟨_, rfl, ?_⟩
  | (apply Exists.intro; apply Exists.intro; apply Exists.intro; apply Exists.intro; refine And.intro rfl (And.intro rfl (And.intro ?sq ?_)); (case sq => walk_at "sq"); refine And.intro rfl ?_)
  | (apply Exists.intro; apply Exists.intro; apply Exists.intro; apply Exists.intro; refine And.intro rfl (And.intro rfl (And.intro ?hp ?_)); (case hp => first | assumption | exact upd_same); refine And.intro rfl ?_)
  | (refine And.intro ?c ?_; (case c => walk_at "c")))
local macro_rules | `(tactic| walk_at "r") => `(tactic| repeat walk_at "r1")
/-- further facts of the classes -/
structure Fx {P : Program} {K : PySem.W.Frag} {mg : Str → Option Value} (T : Tx P K mg) : Prop where
  xm : PySem.W.exmOne K (.ref T.C_NoDocument) (.ref T.C_TaglessError) = some true
  nd : PySem.W.kitOne K (.ref T.C_NoDocument) (.ref T.C_NoDocument) = some true
  ve : PySem.W.kitOne K (.ref T.C_NoDocument) (.type "ValueError") = some true
/-- what _law_heard makes of the call -/
def THeard (C : Addr) : (XK → Hp → VK → Prop) → Hp → VK → Prop := fun tl H Q => ∀ H1, Same H H1 → ∃ (Qb : VK) (Eb : XK), tl Eb H1 Qb ∧
  (∀ v H', Qb v H' → ∀ p, H' p = none → Q (.ref p) (upd H' p (.tup [.str "fine", v]))) ∧
  (∀ cls d H', Eb cls d H' → ∃ dd v, cls = .ref C ∧ d = some dd ∧ H' dd = some (.xd [("value", v)]) ∧ ∀ H'' p, Same H' H'' → H'' p = some (.tup [.str "NoDocument", v]) → Q (.ref p) H'')
theorem len_le (z : Str) (h : z.length + 2 ≤ 1000 := by decide) : z.length + 2 ≤ sizeLine := by rw [sizeLine_eq]; omega
section
variable {X : Cx}
abbrev nHeard : List Str := ["_law_call", "_law_caught", "_law_back", "error", "_law_marks", "_law_words"]
theorem heard_gives (T : Tx X.prog X.K X.mg) (F : Fx T) {cdg : Value} {q : Str} :
    GivesTo X nHeard "_law_heard" (defScope s__law_heard) T.a__law_heard cdg (defBody s__law_heard) "_law_call" q (THeard T.C_NoDocument) := by
  intro f c' s H Q tl act hc h
  have hTry : ∀ {p0 p1 p2 p3 : Pos} (W : WX) (pn : List (Addr × Obj)) (xe : Value → Shared → Prop), Takes ((cxOf C8.CX0 X.prog X.w X.K X.mg X.base nHeard "_law_heard" (defScope s__law_heard) T.a__law_heard cdg X.A X.stack s H C8.E0).nox.tr pn xe) W →
      PassesOwn (model X.prog X.w) (cxOf C8.CX0 X.prog X.w X.K X.mg X.base nHeard "_law_heard" (defScope s__law_heard) T.a__law_heard cdg X.A X.stack s H C8.E0).nox.A (cxOf C8.CX0 X.prog X.w X.K X.mg X.base nHeard "_law_heard" (defScope s__law_heard) T.a__law_heard cdg X.A X.stack s H C8.E0).nox.env xe →
      PSs ((cxOf C8.CX0 X.prog X.w X.K X.mg X.base nHeard "_law_heard" (defScope s__law_heard) T.a__law_heard cdg X.A X.stack s H C8.E0).nox.tr pn xe) [.Assign [.Name "_law_back" p0] (.Call (.Name "_law_call" p1) [] [] p2) p3]
        ((fun (W : WX) (D : Ends) (σ : L2.St) (H : Hp) => ∃ (Ech : XK) (Qb : VK), (∀ cls d σ' H', Ech cls d H' → W cls d σ' H') ∧ σ[0]? = some (some (.ref f)) ∧ H c' = some (CodeO c' q) ∧ tl Ech H Qb ∧ ∀ v H', Qb v H' → D.nx (σ.set 2 (some v)) H') W) := by
    intro p0 p1 p2 p3 W pn xe tk _
    refine ⟨fun pins s' σ H' D I h' => ?_⟩
    obtain ⟨Ech, Qb, hW, h1, h2, h3, h4⟩ := h'
    have hp := act W pn xe Ech p1 p2 tk hW
    have hs := pss_one (ps_set (pos := p3) (pos' := p0) (i := 2) sc__law_heard.nd rfl (Or.inl rfl) (pe_mo hp))
    exact hs.run pins s' σ H' D I ⟨_, ⟨h1, h2, h3⟩, h4⟩
  refine ⟨_, (pss_cons (ps_asg (pe_tup (pa_cons pe_non (pa_cons pe_non pa_nil))) (pg_tup rfl (pgs_cons (pg_name (i := 1) sc__law_heard.nd rfl (Or.inl rfl)) (pgs_cons (pg_name (i := 2) sc__law_heard.nd rfl (Or.inl rfl)) pgs_nil))))
      (pss_cons (ps_try_keep (i := 3) rfl rfl sc__law_heard.nd rfl rfl ⟨rfl, by decide, .inl T.m_TaglessError⟩ rfl hTry (fun a oe cls d pn hz hf => (pss_one (ps_set (i := 1) sc__law_heard.nd rfl (Or.inl rfl) (pv 3)))))
      (pss_cons (ps_if (pt_cmpR op_isN (pv 1) pe_non (nomark _)) (pss_one (ps_ret (pe_tup (pa_cons pe_str (pa_cons (pv 2) pa_nil))))) pss_nil)
      (pss_cons (ps_set (i := 4) sc__law_heard.nd rfl (Or.inl rfl) (pe_lst (pa_cons (pe_callB call_isErr (by rfl) T.n_isinstance PyProof.Rows.Boot.«isinstance» (pa_cons (pv 1) (pa_cons (pe_glob (v := .ref T.C_NoDocument) (by rfl) T.m_NoDocument rfl) pa_nil))) pa_nil)))
      (pss_cons (ps_set (i := 5) sc__law_heard.nd rfl (Or.inl rfl) (pe_bm PySem.F.plainAttrs_str PySem.F.slot_str_split PySem.F.type_str_split mt_split pe_str (pa_cons pe_str pa_nil)))
      (pss_cons (ps_if (PW.pt (pw_or (pt_cmpR op_ne (pe_bm PySem.F.plainAttrs_list PySem.F.slot_list_count PySem.F.type_list_count mt_countV (pv 4) (pa_cons pe_bl pa_nil)) pe_int (nomark _)) (pw_or1 (pt_not (pt_val (pe_callB call_isErr (by rfl) T.n_isinstance PyProof.Rows.Boot.«isinstance» (pa_cons (pv 1) (pa_cons (pe_bltn (v := .ty "ValueError") (by rfl) T.n_ValueError PyProof.Rows.Boot.«ValueError» rfl) pa_nil)))))))) (pss_one (ps_ret (pe_tup (pa_cons pe_str (pa_cons pe_non pa_nil))))) pss_nil)
      (pss_one (ps_ret (pe_tup (pa_cons (pe_ix ix_list (pv 5) (pe_bm PySem.F.plainAttrs_list PySem.F.slot_list_index PySem.F.type_list_index mt_index (pv 4) (pa_cons pe_bl pa_nil)) (fun _ _ => rfl)) (pa_cons (pe_value (pv 1)) pa_nil))))))))))), ?_⟩
  refine ⟨len_ok (by show 2 ≤ 1000; decide), fun t nt => ⟨t, _, rfl, SqT.of upd_same, rfl, _, _, rfl, _, _, rfl, rfl, ?_⟩⟩
  have st : Same H (upd H t (.tup [.non, .non])) := same_new nt
  have hc1 := st _ _ hc
  change tSeq _ _ _ _ (upd H t (.tup [.non, .non]))
  generalize upd H t (.tup [.non, .non]) = H1 at st hc1 ⊢
  obtain ⟨Qb, Eb, htl, hq, he⟩ := h H1 st
  refine ⟨Eb, Qb, fun cls d σ' H' e hlen => ?_, rfl, hc1, htl, fun v H' qv => ⟨_, rfl, rfl, true, rfl, iT ⟨_, rfl, len_ok (by show 2 ≤ 1000; decide), fun p np => hq v H' qv p np⟩⟩⟩
  obtain ⟨dd, v, rfl, rfl, hdd, fin⟩ := he cls d H' e
  refine ⟨true, F.xm, fun _ => ⟨T.C_NoDocument, dd, rfl, rfl, fun a na => ?_⟩, fun z => nomatch z⟩
  obtain ⟨x0, x1, x2, x3, x4, x5, rfl⟩ : ∃ x0 x1 x2 x3 x4 x5, σ' = [x0, x1, x2, x3, x4, x5] := by
    match σ', hlen with
    | [x0, x1, x2, x3, x4, x5], _ => exact ⟨x0, x1, x2, x3, x4, x5, rfl⟩
  have ne : dd ≠ a := fun z => by
    rw [z, na] at hdd
    cases hdd
  have s1 : Same H' (upd H' a (exq a T.C_NoDocument dd)) := same_new na
  have er : Err (upd H' a (exq a T.C_NoDocument dd)) a T.C_NoDocument v := ⟨dd, upd_same, s1 _ _ hdd⟩
  refine ⟨_, rfl, ?_⟩
  refine ⟨_, rfl, rfl, false, rfl, iF ?_⟩
  generalize upd H' a (exq a T.C_NoDocument dd) = H2 at s1 er ⊢
  refine ⟨_, rfl, a, _, v, _, _, true, rfl, er, T.e_NoDocument.xc, ClsV.own _, F.nd, len_ok (by show 1 ≤ 1000; decide), fun m nm => ?_⟩
  have s2 : Same H2 (upd H2 m (.lst [.bl true])) := same_new nm
  have h2 : upd H2 m (.lst [.bl true]) m = some (.lst [.bl true]) := upd_same
  generalize upd H2 m (.lst [.bl true]) = H3 at s2 h2 ⊢
  refine ⟨rfl, _, _, rfl, rfl, rfl, len_le _, fun w nw => ?_⟩
  rw [show Txt.split "NoDocument" " " = [Str.ofString "NoDocument"] from by decide +kernel]
  have s3 : Same H3 (upd H3 w (.lst [.str "NoDocument"])) := same_new nw
  have h3 : upd H3 w (.lst [.str "NoDocument"]) w = some (.lst [.str "NoDocument"]) := upd_same
  have h2' := s3 _ _ h2
  have er' : Err (upd H3 w (.lst [.str "NoDocument"])) a T.C_NoDocument v := (er.keep s2).keep s3
  have ss : Same H' (upd H3 w (.lst [.str "NoDocument"])) := s1.trans (s2.trans s3)
  change tSeq _ _ _ _ (upd H3 w (.lst [.str "NoDocument"]))
  generalize upd H3 w (.lst [.str "NoDocument"]) = H4 at h3 h2' er' ss ⊢
  refine ⟨_, rfl, .inl ⟨rfl, _, SqL.of h2'⟩, m, _, _, rfl, rfl, SqL.of h2', rfl, rfl, rfl, _, rfl, ?_⟩
  refine ⟨_, rfl, a, _, v, _, _, true, rfl, er', T.e_NoDocument.xc, .ty _, F.ve, _, rfl, ?_⟩
  refine iF ?_
  refine ⟨_, rfl, _, rfl, .inl ⟨rfl, _, SqL.of h2'⟩, m, _, _, 0, _, rfl, rfl, SqL.of h2', rfl, rfl, rfl, rfl, fun k z hk => absurd hk (Nat.not_lt_zero _), ?_⟩
  refine ⟨w, _, _, _, rfl, rfl, SqL.of h3, rfl, ?_⟩
  refine ⟨_, rfl, a, _, v, rfl, er', T.e_NoDocument.xc, T.e_NoDocument.no, len_ok (by show 2 ≤ 1000; decide), fun p np => ?_⟩
  exact fin _ p (ss.trans (same_new np)) upd_same
end
end K00
end
section
set_option Elab.async false
set_option linter.all false
set_option maxRecDepth 100000
set_option maxHeartbeats 8000000
/-! K00, part v: how long the repr of data within bounds is. -/
namespace K00
open PySem PySem.Spec PyProof.Rows L2 Tg
def sb (B : Nat) : Nat → Nat
  | 0 => 40
  | n + 1 => 10 + (B + 1) * (sb B n + 50)
theorem sb_le (B : Nat) : ∀ n, 40 ≤ sb B n
  | 0 => Nat.le_refl _
  | n + 1 => by
    have := sb_le B n
    have h2 : 1 * (sb B n + 50) ≤ (B + 1) * (sb B n + 50) := Nat.mul_le_mul_right _ (by omega)
    simp only [sb]
    omega
theorem sb_up (B n : Nat) : sb B n ≤ sb B (n + 1) := by
  have h2 : 1 * (sb B n + 50) ≤ (B + 1) * (sb B n + 50) := Nat.mul_le_mul_right _ (by omega)
  simp only [sb]
  omega
theorem sb_mono (B : Nat) {m n : Nat} (h : m ≤ n) : sb B m ≤ sb B n := by
  induction n with
  | zero => cases Nat.le_zero.mp h; exact Nat.le_refl _
  | succ n ih =>
    by_cases q : m ≤ n
    · exact Nat.le_trans (ih q) (sb_up B n)
    · have : m = n + 1 := by omega
      rw [this]
      exact Nat.le_refl _
theorem join_len {m : Nat} : ∀ {ts : List Str}, (∀ t ∈ ts, t.length ≤ m) → (Str.join ", " ts).length ≤ ts.length * (m + 2)
  | [], _ => by simp [Str.join]; decide
  | [t], h => by
    have := h t (by simp)
    simp only [Str.join, List.length_cons, List.length_nil]
    omega
  | t :: u :: ts, h => by
    have h1 := h t (by simp)
    have h2 := join_len (ts := u :: ts) fun x hx => h x (List.mem_cons_of_mem _ hx)
    simp only [Str.join, strLen_append, List.length_cons] at h2 ⊢
    have e : (Str.ofString ", ").length = 2 := by decide
    rw [e]
    rw [Nat.add_mul] at h2
    rw [Nat.add_mul, Nat.add_mul]
    omega
mutual
theorem show_ok {B : Nat} : ∀ {d : PyData} {n : Nat}, okD B d = true → d.depth ≤ n → d.showable = true ∧ d.shown.length ≤ sb B n
  | .none, n, _, _ => ⟨by simp [PyData.showable], Nat.le_trans (by decide +kernel) (sb_le B n)⟩
  | .bool b, n, _, _ => ⟨by simp [PyData.showable], Nat.le_trans (by cases b <;> decide +kernel) (sb_le B n)⟩
  | .int i, n, h, _ => by
    simp only [okD, decide_eq_true_eq] at h
    exact ⟨h.2.1, Nat.le_trans h.2.2 (sb_le B n)⟩
  | .str x, n, h, _ => by
    simp only [okD, decide_eq_true_eq] at h
    exact ⟨by simp [PyData.showable], Nat.le_trans h.2.2 (sb_le B n)⟩
  | .list ds, n, h, hd => by
    simp only [okD, Bool.and_eq_true, decide_eq_true_eq] at h
    cases n with
    | zero => simp [PyData.depth] at hd
    | succ n =>
      simp only [PyData.depth] at hd
      obtain ⟨h1, h2⟩ := show_okL (n := n) h.2 (by omega)
      refine ⟨by simpa [PyData.showable] using h1, ?_⟩
      have h3 := join_len h2
      rw [PyData.shown_list, strLen_append, strLen_append]
      rw [PyData.shownAll_length] at h3
      have h4 : ds.length * (sb B n + 2) ≤ B * (sb B n + 50) := Nat.mul_le_mul h.1 (by omega)
      have h5 : (B + 1) * (sb B n + 50) = B * (sb B n + 50) + (sb B n + 50) := by rw [Nat.add_mul, Nat.one_mul]
      simp only [sb]
      show 1 + _ + 1 ≤ _
      omega
  | .tuple ds, n, h, hd => by
    simp only [okD, Bool.and_eq_true, decide_eq_true_eq] at h
    cases n with
    | zero => simp [PyData.depth] at hd
    | succ n =>
      simp only [PyData.depth] at hd
      obtain ⟨h1, h2⟩ := show_okL (n := n) h.2 (by omega)
      refine ⟨by simpa [PyData.showable] using h1, ?_⟩
      have h3 := join_len h2
      rw [PyData.shown_tuple, strLen_append, strLen_append]
      rw [PyData.shownAll_length] at h3
      have h4 : ds.length * (sb B n + 2) ≤ B * (sb B n + 50) := Nat.mul_le_mul h.1 (by omega)
      have h5 : (B + 1) * (sb B n + 50) = B * (sb B n + 50) + (sb B n + 50) := by rw [Nat.add_mul, Nat.one_mul]
      have h6 : (Str.ofString (if ds.length == 1 then ",)" else ")")).length ≤ 2 := by split <;> decide
      simp only [sb]
      show 1 + _ + _ ≤ _
      omega
  | .dict kds, n, h, hd => by
    simp only [okD, Bool.and_eq_true, decide_eq_true_eq] at h
    cases n with
    | zero => simp [PyData.depth] at hd
    | succ n =>
      simp only [PyData.depth] at hd
      obtain ⟨h1, h2, h7⟩ := show_okK (n := n) h.2 (by omega)
      refine ⟨by simpa [PyData.showable] using h1, ?_⟩
      have h3 := join_len h2
      rw [PyData.shown_dict, strLen_append, strLen_append]
      rw [h7] at h3
      have h4 : kds.length * (sb B n + 42 + 2) ≤ B * (sb B n + 50) := Nat.mul_le_mul h.1.1 (by omega)
      have h5 : (B + 1) * (sb B n + 50) = B * (sb B n + 50) + (sb B n + 50) := by rw [Nat.add_mul, Nat.one_mul]
      simp only [sb]
      show 1 + _ + 1 ≤ _
      omega
theorem show_okL {B : Nat} : ∀ {ds : List PyData} {n : Nat}, okL B ds = true → PyData.depthAll ds ≤ n → PyData.showableAll ds = true ∧ ∀ t ∈ PyData.shownAll ds, t.length ≤ sb B n
  | [], n, _, _ => ⟨by simp [PyData.showableAll], fun t h => by simp [PyData.shownAll] at h⟩
  | d :: ds, n, h, hd => by
    simp only [okL, Bool.and_eq_true] at h
    simp only [PyData.depthAll] at hd
    obtain ⟨a1, a2⟩ := show_ok (n := n) h.1 (by omega)
    obtain ⟨b1, b2⟩ := show_okL (n := n) h.2 (by omega)
    refine ⟨by simp [PyData.showableAll, a1, b1], fun t ht => ?_⟩
    rw [PyData.shownAll] at ht
    rcases List.mem_cons.mp ht with rfl | ht
    · exact a2
    · exact b2 t ht
theorem show_okK {B : Nat} : ∀ {ds : List (PyData × PyData)} {n : Nat}, okK B ds = true → PyData.depthKv ds ≤ n → PyData.showableKv ds = true ∧ (∀ t ∈ PyData.shownKv ds, t.length ≤ sb B n + 42) ∧ (PyData.shownKv ds).length = ds.length
  | [], n, _, _ => ⟨by simp [PyData.showableKv], fun t h => by simp [PyData.shownKv] at h, by simp [PyData.shownKv]⟩
  | (k, d) :: ds, n, h, hd => by
    simp only [okK, Bool.and_eq_true] at h
    simp only [PyData.depthKv] at hd
    obtain ⟨a1, a2⟩ := show_ok (n := n) h.1.2 (by omega)
    obtain ⟨b1, b2, b3⟩ := show_okK (n := n) h.2 (by omega)
    obtain ⟨k1, k2⟩ : k.showable = true ∧ k.shown.length ≤ 40 := key_ok h.1.1
    refine ⟨by simp [PyData.showableKv, k1, a1, b1], fun t ht => ?_, by simp [PyData.shownKv, b3]⟩
    rw [PyData.shownKv] at ht
    rcases List.mem_cons.mp ht with rfl | ht
    · rw [strLen_append, strLen_append]
      have e : (Str.ofString ": ").length = 2 := by decide
      rw [e]
      omega
    · exact b2 t ht
theorem key_ok : ∀ {k : PyData}, okD 0 k = true → k.showable = true ∧ k.shown.length ≤ 40
  | .none, _ => ⟨by simp [PyData.showable], by decide +kernel⟩
  | .bool b, _ => ⟨by simp [PyData.showable], by cases b <;> decide +kernel⟩
  | .int i, h => by
    simp only [okD, decide_eq_true_eq] at h
    exact ⟨h.2.1, h.2.2⟩
  | .str x, h => by
    simp only [okD, decide_eq_true_eq] at h
    exact ⟨by simp [PyData.showable], h.2.2⟩
  | .list ds, h => by
    simp only [okD, Bool.and_eq_true, decide_eq_true_eq] at h
    have : ds = [] := List.length_eq_zero_iff.mp (by omega)
    subst this
    exact ⟨by simp [PyData.showable, PyData.showableAll], by decide +kernel⟩
  | .tuple ds, h => by
    simp only [okD, Bool.and_eq_true, decide_eq_true_eq] at h
    have : ds = [] := List.length_eq_zero_iff.mp (by omega)
    subst this
    exact ⟨by simp [PyData.showable, PyData.showableAll], by decide +kernel⟩
  | .dict ds, h => by
    simp only [okD, Bool.and_eq_true, decide_eq_true_eq] at h
    have : ds = [] := List.length_eq_zero_iff.mp (by omega)
    subst this
    exact ⟨by simp [PyData.showable, PyData.showableKv], by decide +kernel⟩
end
end K00
end
section
set_option Elab.async false
set_option linter.all false
set_option maxRecDepth 100000
set_option maxHeartbeats 8000000
set_option pp.maxSteps 900
namespace K00
open PySem PySem.Spec PyProof.Rows L2 Tg LamX
local macro_rules | `(tactic| walk_at "c") => `(tactic| first | assumption | trivial | omega | (constructor <;> omega) | decide | exact len_ok (Nat.le_of_ble_eq_true rfl))
local macro_rules | `(tactic| walk_at "sq") => `(tactic| first | exact SqL.of (by assumption) | exact SqL.of upd_same | assumption | exact SqT.of (by assumption) | exact SqT.of upd_same | exact .inl (SqL.of (by assumption)) | exact .inr (SqT.of (by assumption)))
local macro_rules | `(tactic| walk_at "r1") => `(tactic| first
  | refine ⟨_, rfl, ?_⟩
  | refine ⟨_, _, rfl, rfl, ?_⟩
  | refine .inl ⟨_, rfl, ?_⟩
  | refine .inr ⟨_, rfl, ?_⟩
  | (apply Exists.intro; apply Exists.intro; apply Exists.intro; apply Exists.intro; refine And.intro rfl (And.intro rfl (And.intro ?sq ?_)); (case sq => walk_at "sq"); refine And.intro rfl ?_)
  | (apply Exists.intro; apply Exists.intro; apply Exists.intro; apply Exists.intro; refine And.intro rfl (And.intro rfl (And.intro ?hp ?_)); (case hp => first | assumption | exact upd_same); refine And.intro rfl ?_)
  | (refine And.intro ?c ?_; (case c => walk_at "c")))
local macro_rules | `(tactic| walk_at "r") => `(tactic| repeat walk_at "r1")
/-- the tables of the two lambdas -/
def tabsL (P1 P2 : Addr) : List (Addr × Str) := [(P1, ("_law_one_right" : Str) ++ ".<locals>." ++ "<lambda>"), (P2, ("_law_two_right" : Str) ++ ".<locals>." ++ "<lambda>")]
theorem tab_two {P1 P2 : Addr} (h : P1 ≠ P2) : ∀ p ∈ tabsL P1 P2, p.1 = P2 → p.2 = ("_law_two_right" : Str) ++ ".<locals>." ++ "<lambda>" := by
  intro p hp e
  simp only [tabsL, List.mem_cons, List.not_mem_nil, or_false] at hp
  rcases hp with rfl | rfl
  · exact absurd e h
  · rfl
abbrev nTwo : List Str := ["_law_one", "_law_other", "_law_bad", "_law_due", "_law_value"]
/-- a comprehension with a test: f i stands behind i turns -/
theorem lc_filt {J : It} {n : Nat} {G : Hp → Prop} {Y : Nat → Hp → V → Hp → Prop} (w : Walk J n G Y) {g : TG} {tt : TT} {te : TE} {vs : List Nat} {σ : L2.St} {H0 H1 : Hp} {D : Addr} {Qd : Hp → Prop} (f : Nat → List V) (h01 : Same H0 H1) (nD : H1 D = none) (hn : ∀ i, i < n → (f i).length < 1000) (f0 : f 0 = []) (hG : ∀ H, Same H0 H → G H)
    (hs : ∀ i x H H', i < n → Same H0 H → Y i H x H' → ∀ (Qy : VK) (Qn : Hp → Prop), (∀ y H3, Same H H3 → f (i + 1) = f i ++ [y] → Qy y H3) → (∀ H3, Same H H3 → f (i + 1) = f i → Qn H3) →
      g x (wipe σ vs) H' fun σ2 H2 => wipe σ2 vs = wipe σ vs ∧ tt σ2 H2 fun b H3 => if b = true then te σ2 H3 Qy else Qn H3)
    (hd : ∀ H, Same H0 H → H D = some (.lst (f n)) → Qd H) :
    ∃ W : Nat → Nat → Hp → Prop, (∃ m, W 0 m (upd H1 D (.lst []))) ∧ ∀ i m H, W i m H →
      (J.stop i H ∧ Qd H) ∨ (J.go i H ∧ ∃ Nx : Hp → Prop, (∀ H', Nx H' → ∃ m', m' < m ∧ W (i + 1) m' H') ∧ ∀ x H', J.yld i H x H' → g x (wipe σ vs) H' fun σ2 H2 => wipe σ2 vs = wipe σ vs ∧ tt σ2 H2 fun b H3 =>
        if b = true then te σ2 H3 fun y H4 => ∃ acc, H4 D = some (.lst acc) ∧ acc.length < sizeLine ∧ Nx (upd H4 D (.lst (acc ++ [y]))) else Nx H3) := by
  have n0 : H0 D = none := by
    cases q : H0 D with
    | none => rfl
    | some o => rw [h01 _ _ q] at nD; cases nD
  refine lc_it w (fun j H => Same H0 H ∧ H D = some (.lst (f j))) ⟨h01.trans (same_new nD), by rw [upd_same, f0]⟩ (fun i H _ p => hG H p.1) ?_ fun H p => hd H p.1 p.2
  rintro i x H H' hi ⟨s, hD⟩ y
  refine hs i x H H' hi s y _ _ (fun y H3 s3 e => ⟨_, s3 _ _ hD, ?_, fun b o e => ?_, ?_⟩) fun H3 s3 e => ⟨s.trans s3, by rw [e]; exact s3 _ _ hD⟩
  · rw [sizeLine_eq]
    have := hn i hi
    omega
  · rw [upd_ne (ne_of_none e n0)]
    exact s3 _ _ (s _ _ e)
  · rw [upd_same, e]
/-- those that are no documents -/
def badV (ys : List (V × Bool)) (i : Nat) : List V := ((ys.take i).filter fun p => !p.2).map (·.1)
theorem badV_len (ys : List (V × Bool)) (i : Nat) : (badV ys i).length ≤ ys.length := by
  unfold badV
  rw [List.length_map]
  refine Nat.le_trans (List.length_filter_le _ _) ?_
  rw [List.length_take]
  omega
theorem badV_succ {ys : List (V × Bool)} {i : Nat} {x : V} {b : Bool} (h : ys[i]? = some (x, b)) : badV ys (i + 1) = badV ys i ++ (if b = true then [] else [x]) := by
  unfold badV
  rw [List.take_add_one, h, List.filter_append, List.map_append]
  cases b <;> rfl
/-- what is due -/
def dueD (d1 d2 : PyData) : PyData := if isDoc d1 = true then (if isDoc d2 = true then .tuple [.str "fine", .bool (sameD d1 d2)] else .tuple [.str "NoDocument", d2]) else .tuple [.str "NoDocument", d1]
theorem sb46 : sb 4 6 ≤ 8000000 := by decide +kernel
theorem due_ok {d1 d2 : PyData} (o1 : okD 4 d1 = true) (o2 : okD 4 d2 = true) (p1 : d1.depth < 7) (p2 : d2.depth < 7) : (dueD d1 d2).showable = true ∧ (dueD d1 d2).shown.length ≤ sizeLine ∧ (dueD d1 d2).depth ≤ 7 := by
  have one : ∀ d, okD 4 d = true → d.depth < 7 → (PyData.tuple [.str "NoDocument", d]).showable = true ∧ (PyData.tuple [.str "NoDocument", d]).shown.length ≤ sizeLine ∧ (PyData.tuple [.str "NoDocument", d]).depth ≤ 7 := fun d o p => by
    obtain ⟨h1, h2⟩ := show_ok (n := 6) o (by omega)
    have h3 := sb46
    refine ⟨by simp [PyData.showable, PyData.showableAll, h1], ?_, ?_⟩
    · have e : (PyData.str "NoDocument").shown.length = 12 := by decide +kernel
      rw [PyData.shown_tuple]
      simp only [PyData.shownAll, Str.join, strLen_append, e, sizeLine_eq]
      show 1 + (12 + 2 + _) + 1 ≤ _
      omega
    · simp only [PyData.depth, PyData.depthAll]
      omega
  unfold dueD
  split
  · split
    · generalize sameD d1 d2 = b
      cases b <;> refine ⟨by decide +kernel, ?_, by decide +kernel⟩ <;> rw [sizeLine_eq] <;> decide +kernel
    · exact one _ o2 p2
  · exact one _ o1 p1
def spTwo (P1 P2 : Addr) : Sp := fun vs H Q _ => ∃ (v1 v2 : V) (d1 d2 : PyData), vs = [v1, v2] ∧ Rp H d1 v1 ∧ Rp H d2 v2 ∧ okD 4 d1 = true ∧ okD 4 d2 = true ∧ d1.depth < 7 ∧ d2.depth < 7 ∧ Tabs (tabsL P1 P2) H ∧ ∀ H', ExtN H H' → Tabs (tabsL P1 P2) H' → Q (.bl true) H'
section
variable {P : Program} {w : World} {K : PySem.W.Frag} {mg : Str → Option Value} {base : Heap}
theorem ok_two (T : Tx P K mg) (F : Fx T) {P1 P2 c2 : Addr} (hP : P1 ≠ P2) (TB : TabB base mg c2 P2) (FC : FunC K "_law_two_right" "_law_two_right" s__law_two_right T.a__law_two_right T.fd__law_two_right c2) :
    FnG P w K mg base CX0 14 T.a__law_two_right T.fd__law_two_right ["_law_one", "_law_other"] (spTwo P1 P2) := by
  have G__law_is_one := ok_one (w := w) (base := base) T (B := 4) (by decide) 7
  have G__law_ink := ok_ink (w := w) (base := base) T (B := 4) (by decide) 7
  have G_same := ok_same (w := w) (base := base) T (B := 4) (by decide) 7
  obtain ⟨och, odh, kVh, doch, pmh, anh, cdvh, cth, oslh, efd, lkh, hch⟩ := T.F__law_heard.ex
  have bh := T.b__law_heard
  rw [efd] at lkh bh
  refine funGC FC sc__law_two_right (fun vs H Q E h => ?_) (fun A fr s H vs Q E hgd hr h => ?_)
  · obtain ⟨v1, v2, d1, d2, rfl, _⟩ := h
    rfl
  obtain ⟨v1, v2, d1, d2, rfl, r1, r2, o1, o2, p1, p2, tb, k⟩ := h
  obtain ⟨U, hU, hU2⟩ := room_units hr
  refine ⟨_, (pss_cons (ps_par (i := 2) (j := 3) (by rfl) sc__law_two_right.nd rfl rfl (by decide) rfl rfl (pa_cons (pe_lc (own := [("_law_value", 4)]) (g := gName 4) (by rfl) sc__law_two_right.nd (pi_tup (pe_tup (pa_cons (pv 0) (pa_cons (pv 1) pa_nil)))) (blkOk_by (own := [("_law_value", 4)]) (N := ["_law_one", "_law_other", "_law_bad", "_law_due", "_law_value"]) (sc := defScope s__law_two_right) (by decide +kernel)) (fun _ _ _ _ _ => (pg_name (i := 4) sc__law_two_right.nd rfl (Or.inl rfl))) (fun _ _ _ _ _ => (pts_one (pt_not (pt_val (pe_call G__law_is_one (hr.mono (by first | decide | omega)) (by rfl) T.m__law_is_one T.F__law_is_one.kp T.b__law_is_one .nil pass0 (pa_cons (pv 4) pa_nil)))))) (fun _ _ _ _ _ => (pv 4))) (pa_cons (pe_tup (pa_cons pe_str (pa_cons pe_non pa_nil))) pa_nil)) (by rfl))
      (pss_cons (ps_if (pt_cmpR (op_neL0 (hu0 hr)) (pv 2) (pe_lst pa_nil) (nomark _)) (pss_one (ps_set (i := 3) sc__law_two_right.nd rfl (Or.inl rfl) (pe_tup (pa_cons pe_str (pa_cons (pe_ix ix_list (pv 2) pe_int (fun _ _ => rfl)) pa_nil))))) (pss_one (ps_set (i := 3) sc__law_two_right.nd rfl (Or.inl rfl) (pe_tup (pa_cons pe_str (pa_cons (pe_cmpR (op_eqD hr.units) (pe_call G__law_ink (hr.mono (by first | decide | omega)) (by rfl) T.m__law_ink T.F__law_ink.kp T.b__law_ink .nil pass0 (pa_cons (pv 0) pa_nil)) (pe_call G__law_ink (hr.mono (by first | decide | omega)) (by rfl) T.m__law_ink T.F__law_ink.kp T.b__law_ink .nil pass0 (pa_cons (pv 1) pa_nil)) (nomark _)) pa_nil))))))
      (pss_one (ps_ret (pe_cmpR op_eq (pe_callB (call_reprN hgd hU) (by rfl) T.n_repr PyProof.Rows.Boot.«repr» (pa_cons (pe_lamcall (T := tabsL P1 P2) (TT := THeard T.C_NoDocument) (k := 11) (by rfl) T.m__law_heard T.F__law_heard.kp lkh hch bh sc__law_heard rfl (Or.inl rfl) (heard_gives (X := (cxOf CX0 P w K mg base nTwo "_law_two_right" (defScope s__law_two_right) T.a__law_two_right (.ref c2) A fr s H E).nox) T F) TB rfl (.tail _ (.head _)) (tab_two hP) (hr.mono (by decide)) (lamS_by (sc := defScope s__law_two_right) (by decide +kernel)) rfl (fun _ _ _ _ _ => rfl) (fun A outer s H E f c' hr => pe_call G_same hr (by rfl) T.m_same T.F_same.kp T.b_same .nil (passes_call (takes_of rfl rfl rfl rfl) fun _ _ _ _ h => h) (pa_cons (pv 0) (pa_cons (pv 1) pa_nil)))) pa_nil)) (pe_callB (call_reprN hgd hU) (by rfl) T.n_repr PyProof.Rows.Boot.«repr» (pa_cons (pv 3) pa_nil)) (nomark _)))))), ?_⟩
  obtain ⟨w1, w2, w3⟩ := due_ok o1 o2 p1 p2
  have fin : ∀ (Hx : Hp) (D u : Addr), Same H Hx → Rp Hx (dueD d1 d2) (.ref u) → tRet
        (tOp rEq
          (tCB (rReprN U)
            (tCons
              (tLam (tabsL P1 P2) (THeard T.C_NoDocument) fun E =>
                tCall (spSm T.C_NoDocument 4 7) [] E (tCons (tVar 0) (tCons (tVar 1) tNil)))
              tNil))
          (tCB (rReprN U) (tCons (tVar 3) tNil))) { nx := fun x H' => Q V.non H', rt := Q } [some v1, some v2, some (.ref D), some (.ref u), none] Hx := by
    intro Hx D u sx ru
    refine ⟨tb.ext sx, fun Hy ex ty Hz sz => ?_⟩
    have ey : ExtN H Hy := (ExtN.same sx).trans ex
    have ez : ExtN H Hz := ey.trans (ExtN.same sz)
    have ruz : Rp Hz (dueD d1 d2) (.ref u) := ru.extN (ex.trans (ExtN.same sz))
    have tz := ty.ext sz
    have after : ∀ (Hv : Hp) (p : Addr), Same Hz Hv → Rp Hv (dueD d1 d2) (.ref p) → ∃ x y, (∃ d v, [V.ref p] = [v] ∧ Rp Hv d v ∧ d.showable = true ∧ d.shown.length ≤ sizeLine ∧ U + d.depth + 2 < cLine ∧ True) := fun _ _ _ _ => ⟨0, 0, _, _, rfl, ‹_›, w1, w2, by omega, trivial⟩
    have last : ∀ (Hv : Hp) (p : Addr), Same Hz Hv → Rp Hv (dueD d1 d2) (.ref p) → rReprN U [.ref p] Hv fun x H1 => tCB (rReprN U) (tCons (tVar 3) tNil) [some v1, some v2, some (.ref D), some (.ref u), none] H1 fun y H2 => rEq x y H2 Q := by
      intro Hv p sv rp
      refine ⟨dueD d1 d2, _, rfl, rp, w1, w2, by omega, _, rfl, dueD d1 d2, _, rfl, ruz.same sv, w1, w2, by omega, rfl, ?_⟩
      rw [decide_eq_true rfl]
      exact k Hv (ez.trans (ExtN.same sv)) (tz.ext sv)
    refine ⟨fun v H' => Same Hz H' ∧ v = .bl (sameD d1 d2) ∧ isDoc d1 = true ∧ isDoc d2 = true,
      fun cls d H' => ∃ (H'' : Hp) (dd : Addr) (vv : V) (dv : PyData), Same Hz H'' ∧ H'' dd = none ∧ cls = .ref T.C_NoDocument ∧ d = some dd ∧ H' = upd H'' dd (.xd [("value", vv)]) ∧ Rp Hz dv vv ∧ dueD d1 d2 = .tuple [.str "NoDocument", dv], ?_, ?_, ?_⟩
    · refine ⟨_, rfl, _, rfl, v1, v2, d1, d2, rfl, r1.extN ez, r2.extN ez, o1, o2, p1, p2, fun q1 q2 H' s' => ⟨s', rfl, q1, q2⟩, fun q1 H' dd s' nd => ⟨H', dd, v1, d1, s', nd, rfl, rfl, rfl, r1.extN ez, by simp [dueD, q1]⟩, fun q1 q2 H' dd s' nd => ⟨H', dd, v2, d2, s', nd, rfl, rfl, rfl, r2.extN ez, by simp [dueD, q1, q2]⟩⟩
    · rintro v H' ⟨s', rfl, q1, q2⟩ p np
      refine last _ p (s'.trans (same_new np)) ?_
      rw [dueD, if_pos q1, if_pos q2]
      exact Rp.tup upd_same (RpL.cons Rp.str (RpL.cons Rp.bl RpL.nil))
    · rintro cls d H' ⟨H'', dd, vv, dv, s', nd, rfl, rfl, rfl, rv, ed⟩
      refine ⟨dd, vv, rfl, rfl, upd_same, fun H3 p s3 hp => ?_⟩
      have s4 : Same Hz H3 := s'.trans ((same_new nd).trans s3)
      refine last _ p s4 ?_
      rw [ed]
      exact Rp.tup hp (RpL.cons Rp.str (RpL.cons (rv.same s4) RpL.nil))
  refine ⟨_, rfl, _, rfl, len_ok (by show 2 ≤ 1000; decide), fun t nt => ⟨t, rfl, ⟨_, SqT.of upd_same⟩, fun D nD => ?_⟩⟩
  have st : Same H (upd H t (.tup [v1, v2])) := same_new nt
  have ht : upd H t (.tup [v1, v2]) t = some (.tup [v1, v2]) := upd_same
  generalize upd H t (.tup [v1, v2]) = H1 at st ht nD ⊢
  refine lc_filt (walk_tup (xs := [v1, v2])) (badV [(v1, isDoc d1), (v2, isDoc d2)]) (fun _ _ e => e) nD (fun i _ => ?_) rfl (fun H2 s2 => SqT.of (s2 _ _ ht)) ?_ ?_
  · have := badV_len [(v1, isDoc d1), (v2, isDoc d2)] i
    exact Nat.lt_of_le_of_lt this (by show 2 < 1000; decide)
  · rintro i x H2 H3 hi s2 ⟨rfl, hx⟩ Qy Qn ky kn
    obtain ⟨d, rd, od, pd, hb⟩ : ∃ d, Rp H d x ∧ okD 4 d = true ∧ d.depth < 7 ∧ [(v1, isDoc d1), (v2, isDoc d2)][i]? = some (x, isDoc d) := by
      match i, hi, hx with
      | 0, _, hx => cases hx; exact ⟨d1, r1, o1, p1, rfl⟩
      | 1, _, hx => cases hx; exact ⟨d2, r2, o2, p2, rfl⟩
    have bs := badV_succ hb
    refine ⟨rfl, _, rfl, x, d, rfl, rd.same (st.trans s2), od, pd, fun H4 s4 => ⟨_, rfl, ?_⟩⟩
    cases hq : isDoc d with
    | true =>
      rw [hq] at bs
      exact iF (kn H4 s4 (by rw [bs]; simp))
    | false =>
      rw [hq] at bs
      exact iT ⟨_, rfl, ky x H4 s4 (by rw [bs]; simp)⟩
  intro H2 s2 hD
  refine ⟨len_ok (by show 2 ≤ 1000; decide), fun t2 n2 => ⟨_, _, rfl, ?_⟩⟩
  have s3 : Same H2 (upd H2 t2 (.tup [.str "fine", .non])) := same_new n2
  change tSeq _ _ _ _ (upd H2 t2 (.tup [.str "fine", .non]))
  generalize upd H2 t2 (.tup [.str "fine", .non]) = H3 at s3 ⊢
  have hD3 := s3 _ _ hD
  have sH3 : Same H H3 := st.trans (s2.trans s3)
  refine ⟨_, rfl, len_ok (Nat.zero_le _), fun e ne => ⟨D, e, _, rfl, rfl, SqL.of (same_new ne _ _ hD3), SqL.of upd_same, _, rfl, ?_⟩⟩
  have s4 : Same H3 (upd H3 e (.lst [])) := same_new ne
  generalize upd H3 e (.lst []) = H4 at s4 ⊢
  have hD4 := s4 _ _ hD3
  have sH4 : Same H H4 := sH3.trans s4
  cases q1 : isDoc d1 with
  | false =>
    have eb : badV [(v1, isDoc d1), (v2, isDoc d2)] 2 = v1 :: (if isDoc d2 = true then [] else [v2]) := by rw [q1]; cases isDoc d2 <;> rfl
    have hD5 : H4 D = some (.lst (v1 :: (if isDoc d2 = true then [] else [v2]))) := by rw [← eb]; exact hD4
    have ne0 : (!(badV [(v1, false), (v2, isDoc d2)] 2).isEmpty) = true := by cases isDoc d2 <;> rfl
    refine ite2 (fun _ => ?_) (fun z => absurd ne0 z)
    refine ⟨_, rfl, D, _, _, v1, rfl, rfl, SqL.of hD5, (by cases isDoc d2 <;> rfl), len_ok (by show 2 ≤ 1000; decide), fun u nu => ?_⟩
    refine fin _ D u (sH4.trans (same_new nu)) ?_
    rw [dueD, if_neg (by rw [q1]; decide)]
    exact Rp.tup upd_same (RpL.cons Rp.str (RpL.cons (r1.same (sH4.trans (same_new nu))) RpL.nil))
  | true =>
    cases q2 : isDoc d2 with
    | false =>
      have eb : badV [(v1, isDoc d1), (v2, isDoc d2)] 2 = [v2] := by rw [q1, q2]; rfl
      have hD5 : H4 D = some (.lst [v2]) := by rw [← eb]; exact hD4
      have ne0 : (!(badV [(v1, true), (v2, false)] 2).isEmpty) = true := rfl
      refine ite2 (fun _ => ?_) (fun z => absurd ne0 z)
      refine ⟨_, rfl, D, _, _, v2, rfl, rfl, SqL.of hD5, rfl, len_ok (by show 2 ≤ 1000; decide), fun u nu => ?_⟩
      refine fin _ D u (sH4.trans (same_new nu)) ?_
      rw [dueD, if_pos q1, if_neg (by rw [q2]; decide)]
      exact Rp.tup upd_same (RpL.cons Rp.str (RpL.cons (r2.same (sH4.trans (same_new nu))) RpL.nil))
    | true =>
      have eb : badV [(v1, isDoc d1), (v2, isDoc d2)] 2 = [] := by rw [q1, q2]; rfl
      have ne0 : ¬ (!(badV [(v1, true), (v2, true)] 2).isEmpty) = true := fun z => nomatch z
      refine ite2 (fun z => absurd z ne0) (fun _ => ?_)
      refine ⟨_, rfl, v1, d1, rfl, r1.same sH4, o1, p1, q1, fun H5 u1 t1 s5 rt1 ik1 => ⟨_, rfl, v2, d2, rfl, r2.same (sH4.trans s5), o2, p2, q2, fun H6 u2 t2 s6 rt2 ik2 => ?_⟩⟩
      obtain ⟨i1, i2, i3, i4, i5⟩ := ink_eq p1 p2 (by decide) o1 o2 q1 q2 ik1 ik2
      refine ⟨t1, t2, tup_dp i4 (rt1.same s6), tup_dp i5 rt2, i1, i2, len_ok (by show 2 ≤ 1000; decide), fun u nu => ?_⟩
      rw [i3]
      have s7 : Same H (upd H6 u (.tup [.str "fine", .bl (sameD d1 d2)])) := sH4.trans (s5.trans (s6.trans (same_new nu)))
      refine fin _ D u s7 ?_
      rw [dueD, if_pos q1, if_pos q2]
      exact Rp.tup upd_same (RpL.cons Rp.str (RpL.cons Rp.bl RpL.nil))
end
end K00
end
section
set_option Elab.async false
set_option linter.all false
set_option maxRecDepth 100000
set_option maxHeartbeats 8000000
set_option pp.maxSteps 900
namespace K00
open PySem PySem.Spec PyProof.Rows L2 Tg LamX
local macro_rules | `(tactic| walk_at "c") => `(tactic| first | assumption | trivial | omega | (constructor <;> omega) | decide | exact len_ok (Nat.le_of_ble_eq_true rfl))
local macro_rules | `(tactic| walk_at "sq") => `(tactic| first | exact SqL.of (by assumption) | exact SqL.of upd_same | assumption | exact SqT.of (by assumption) | exact SqT.of upd_same | exact .inl (SqL.of (by assumption)) | exact .inr (SqT.of (by assumption)))
local macro_rules | `(tactic| walk_at "r1") => `(tactic| first
  | refine ⟨_, rfl, ?_⟩
  | refine ⟨_, _, rfl, rfl, ?_⟩
  | refine .inl ⟨_, rfl, ?_⟩
  | refine .inr ⟨_, rfl, ?_⟩
  | (apply Exists.intro; apply Exists.intro; apply Exists.intro; apply Exists.intro; refine And.intro rfl (And.intro rfl (And.intro ?sq ?_)); (case sq => walk_at "sq"); refine And.intro rfl ?_)
  | (apply Exists.intro; apply Exists.intro; apply Exists.intro; apply Exists.intro; refine And.intro rfl (And.intro rfl (And.intro ?hp ?_)); (case hp => first | assumption | exact upd_same); refine And.intro rfl ?_)
  | (refine And.intro ?c ?_; (case c => walk_at "c")))
local macro_rules | `(tactic| walk_at "r") => `(tactic| repeat walk_at "r1")
abbrev nOne : List Str := ["_law_pot", "_law_value", "_law_is_one_here", "_law_due", "_law_bent_here"]
theorem tab_one {P1 P2 : Addr} (h : P1 ≠ P2) : ∀ p ∈ tabsL P1 P2, p.1 = P1 → p.2 = ("_law_one_right" : Str) ++ ".<locals>." ++ "<lambda>" := by
  intro p hp e
  simp only [tabsL, List.mem_cons, List.not_mem_nil, or_false] at hp
  rcases hp with rfl | rfl
  · rfl
  · exact absurd e.symm h
/-- all but the pot and the tables stays -/
def ExtB (p : Addr) (H H' : Hp) : Prop := ∀ b o, b ≠ p → (∀ ps, o ≠ .tbl ps) → H b = some o → H' b = some o
theorem ExtB.trans {p : Addr} {H H1 H2 : Hp} (a : ExtB p H H1) (b : ExtB p H1 H2) : ExtB p H H2 := fun c o n t e => b c o n t (a c o n t e)
theorem ExtB.ext {p : Addr} {H H1 : Hp} (a : ExtN H H1) : ExtB p H H1 := fun c o n t e => a c o e t
theorem ExtB.but {p : Addr} {H H1 : Hp} (a : But p H H1) : ExtB p H H1 := fun c o n t e => a c o n e
theorem ExtB.kp {p : Addr} {c : Int} {H H1 : Hp} (hp : PotAt H p c) (a : ExtB p H H1) : Kp H H1 := by
  obtain ⟨x, y, z, e, r⟩ := hp.ex
  exact ⟨fun a' o u q => a a' _ (ne_of q e (fun z => nomatch z)) (fun _ z => nomatch z) q, fun a' xs q => a a' _ (ne_of q e (fun z => nomatch z)) (fun _ z => nomatch z) q⟩
theorem PotAt.extN {H H' : Hp} {p : Addr} {c : Int} (h : PotAt H p c) (s : ExtN H H') : PotAt H' p c := by
  obtain ⟨x, y, z, e, r⟩ := h.ex
  exact ⟨x, y, z, s _ _ e (fun _ z => nomatch z), r⟩
theorem Tabs.but {T : List (Addr × Str)} {H H' : Hp} {p : Addr} {c : Int} (t : Tabs T H) (hp : PotAt H p c) (s : But p H H') : Tabs T H' := by
  obtain ⟨x, y, z, e, r⟩ := hp.ex
  intro q hq
  obtain ⟨ps, h1, h2, h3⟩ := t q hq
  refine ⟨ps, s _ _ (ne_of h1 e (fun z => nomatch z)) h1, h2, fun pos cv hc => ?_⟩
  obtain ⟨c', e1, e2⟩ := h3 pos cv hc
  exact ⟨c', e1, s _ _ (ne_of e2 e (fun z => by unfold CodeO at z; cases z)) e2⟩
theorem ways {b : Bool} {ta tb : TE} {σ : L2.St} {H : Hp} {Kk : VK} (Pp : V → Hp → Prop) (hK : ∀ x H', Pp x H' → Kk x H') (ha : b = true → ∀ K' : VK, (∀ x H', Pp x H' → K' x H') → ta σ H K') (hb : b = false → ∀ K' : VK, (∀ x H', Pp x H' → K' x H') → tb σ H K') :
    if b = true then ta σ H Kk else tb σ H Kk := by
  cases b with
  | true => exact ha rfl _ hK
  | false => exact hb rfl _ hK
theorem heard_use {C : Addr} {tl : XK → Hp → VK → Prop} {H : Hp} {Kk : VK} (Pp : V → Hp → Prop) (hK : ∀ x H', Pp x H' → Kk x H') (h : ∀ K' : VK, (∀ x H', Pp x H' → K' x H') → THeard C tl H K') : THeard C tl H Kk := h Kk hK
def pb (B : Nat) : Nat → Nat
  | 0 => 1
  | n + 1 => 1 + B * pb B n
theorem pb_pos (B : Nat) : ∀ n, 1 ≤ pb B n
  | 0 => Nat.le_refl _
  | n + 1 => by simp only [pb]; omega
mutual
theorem parts_le {B : Nat} : ∀ {d : PyData} {n : Nat}, okD B d = true → d.depth ≤ n → 0 ≤ parts d ∧ parts d ≤ pb B n
  | .list ds, n, h, hd => by
    simp only [okD, Bool.and_eq_true, decide_eq_true_eq] at h
    cases n with
    | zero => simp [PyData.depth] at hd
    | succ n =>
      simp only [PyData.depth] at hd
      obtain ⟨h1, h2⟩ := partsL_le (n := n) h.2 (by omega)
      have h3 : ds.length * pb B n ≤ B * pb B n := Nat.mul_le_mul_right _ h.1
      simp only [parts, pb]
      omega
  | .dict ds, n, h, hd => by
    simp only [okD, Bool.and_eq_true, decide_eq_true_eq] at h
    cases n with
    | zero => simp [PyData.depth] at hd
    | succ n =>
      simp only [PyData.depth] at hd
      obtain ⟨h1, h2⟩ := partsK_le (n := n) h.2 (by omega)
      have h3 : ds.length * pb B n ≤ B * pb B n := Nat.mul_le_mul_right _ h.1.1
      simp only [parts, pb]
      omega
  | .tuple ds, n, _, _ => by have := pb_pos B n; simp only [parts]; omega
  | .none, n, _, _ => by have := pb_pos B n; simp only [parts]; omega
  | .bool _, n, _, _ => by have := pb_pos B n; simp only [parts]; omega
  | .int _, n, _, _ => by have := pb_pos B n; simp only [parts]; omega
  | .str _, n, _, _ => by have := pb_pos B n; simp only [parts]; omega
theorem partsL_le {B : Nat} : ∀ {ds : List PyData} {n : Nat}, okL B ds = true → PyData.depthAll ds ≤ n → 0 ≤ partsL ds ∧ partsL ds ≤ (ds.length * pb B n : Nat)
  | [], n, _, _ => by simp [partsL]
  | d :: ds, n, h, hd => by
    simp only [okL, Bool.and_eq_true] at h
    simp only [PyData.depthAll] at hd
    obtain ⟨a1, a2⟩ := parts_le (n := n) h.1 (by omega)
    obtain ⟨b1, b2⟩ := partsL_le (n := n) h.2 (by omega)
    simp only [partsL, List.length_cons, Nat.add_mul, Nat.one_mul]
    omega
theorem partsK_le {B : Nat} : ∀ {ds : List (PyData × PyData)} {n : Nat}, okK B ds = true → PyData.depthKv ds ≤ n → 0 ≤ partsK ds ∧ partsK ds ≤ (ds.length * pb B n : Nat)
  | [], n, _, _ => by simp [partsK]
  | (k, d) :: ds, n, h, hd => by
    simp only [okK, Bool.and_eq_true] at h
    simp only [PyData.depthKv] at hd
    obtain ⟨a1, a2⟩ := parts_le (n := n) h.1.2 (by omega)
    obtain ⟨b1, b2⟩ := partsK_le (n := n) h.2 (by omega)
    simp only [partsK, List.length_cons, Nat.add_mul, Nat.one_mul]
    omega
end
theorem smalls : ((List.range 200).all fun i => (PyData.int (i : Nat)).showable && decide ((PyData.int (i : Nat)).shown.length ≤ 40)) = true := by decide +kernel
/-- what size tells -/
def szD (d : PyData) : PyData := if isDoc d = true then .tuple [.str "fine", .int (parts d)] else .tuple [.str "NoDocument", d]
theorem sb34 : sb 3 4 ≤ 8000000 := by decide +kernel
theorem pb34 : pb 3 4 < 200 := by decide +kernel
theorem sz_ok {d : PyData} (o : okD 3 d = true) (p : d.depth < 5) : (szD d).showable = true ∧ (szD d).shown.length ≤ sizeLine ∧ (szD d).depth ≤ 7 := by
  unfold szD
  split
  · obtain ⟨h1, h2⟩ := parts_le (n := 4) o (by omega)
    have h3 := pb34
    obtain ⟨i, hi, e⟩ : ∃ i : Nat, i < 200 ∧ parts d = (i : Nat) := ⟨(parts d).toNat, by omega, by omega⟩
    have q := List.all_eq_true.mp smalls i (List.mem_range.mpr hi)
    rw [Bool.and_eq_true, decide_eq_true_eq] at q
    rw [e]
    refine ⟨by simp [PyData.showable, PyData.showableAll]; simpa [PyData.showable] using q.1, ?_, by simp [PyData.depth, PyData.depthAll]⟩
    have e : (PyData.str "fine").shown.length = 6 := by decide +kernel
    rw [PyData.shown_tuple]
    simp only [PyData.shownAll, Str.join, strLen_append, e, sizeLine_eq]
    show 1 + (6 + 2 + _) + 1 ≤ _
    omega
  · obtain ⟨h1, h2⟩ := show_ok (n := 4) o (by omega)
    have h3 := sb34
    refine ⟨by simp [PyData.showable, PyData.showableAll, h1], ?_, ?_⟩
    · have e : (PyData.str "NoDocument").shown.length = 12 := by decide +kernel
      rw [PyData.shown_tuple]
      simp only [PyData.shownAll, Str.join, strLen_append, e, sizeLine_eq]
      show 1 + (12 + 2 + _) + 1 ≤ _
      omega
    · simp only [PyData.depth, PyData.depthAll]
      omega
theorem bl_ok (b : Bool) : (PyData.bool b).showable = true ∧ (PyData.bool b).shown.length ≤ sizeLine ∧ (PyData.bool b).depth = 0 := by
  refine ⟨by simp [PyData.showable], ?_, by simp [PyData.depth]⟩
  rw [sizeLine_eq]
  cases b <;> decide +kernel
def spOne (P1 P2 : Addr) : Sp := fun vs H Q _ => ∃ (p : Addr) (v : V) (c : Int) (d : PyData), vs = [.ref p, v] ∧ PotAt H p c ∧ c + 410 < 1000000 ∧ Rp H d v ∧ okD 3 d = true ∧ d.depth < 5 ∧ Tabs (tabsL P1 P2) H ∧
  ∀ H', ExtB p H H' → PotAt H' p (c + 410) → Tabs (tabsL P1 P2) H' → Q (.bl true) H'
section
variable {P : Program} {w : World} {K : PySem.W.Frag} {mg : Str → Option Value} {base : Heap}
theorem ok_oneR (T : Tx P K mg) (F : Fx T) {P1 P2 c1 c2 : Addr} (hP : P1 ≠ P2) (TB : TabB base mg c1 P1) (TB2 : TabB base mg c2 P2) (FC : FunC K "_law_one_right" "_law_one_right" s__law_one_right T.a__law_one_right T.fd__law_one_right c1)
    (FC2 : FunC K "_law_two_right" "_law_two_right" s__law_two_right T.a__law_two_right T.fd__law_two_right c2) :
    FnG P w K mg base CX0 15 T.a__law_one_right T.fd__law_one_right ["_law_pot", "_law_value"] (spOne P1 P2) := by
  have G__law_is_one := ok_one (w := w) (base := base) T (B := 3) (by decide) 5
  have G_is_document := ok_doc (w := w) (base := base) T (B := 3) (by decide) 5
  have G__law_parts := ok_lparts (w := w) (base := base) T (B := 3) (by decide) 5
  have G_size := ok_size (w := w) (base := base) T (B := 3) (by decide) 5
  have G_same := ok_same (w := w) (base := base) T (B := 3) (by decide) 5
  have G__law_bent := ok_bent (w := w) (base := base) T 5
  have G__law_of := ok_of (w := w) (base := base) T
  have G__law_turned := ok_turned (w := w) (base := base) T (B := 3) (by decide) 5
  have G__law_two_right := ok_two (w := w) (base := base) T F hP TB2 FC2
  obtain ⟨och, odh, kVh, doch, pmh, anh, cdvh, cth, oslh, efd, lkh, hch⟩ := T.F__law_heard.ex
  have bh := T.b__law_heard
  rw [efd] at lkh bh
  refine funGC FC sc__law_one_right (fun vs H Q E h => ?_) (fun A fr s H vs Q E hgd hr h => ?_)
  · obtain ⟨p, v, c, d, rfl, _⟩ := h
    rfl
  obtain ⟨p, v, c, d, rfl, hp, hc, rd, od, dd, tb, k⟩ := h
  obtain ⟨U, hU, hU2⟩ := room_units hr
  refine ⟨_, (pss_cons (ps_set (i := 2) sc__law_one_right.nd rfl (Or.inl rfl) (pe_call G__law_is_one (hr.mono (by first | decide | omega)) (by rfl) T.m__law_is_one T.F__law_is_one.kp T.b__law_is_one .nil pass0 (pa_cons (pv 1) pa_nil)))
      (pss_cons (ps_if (pt_cmpR op_ne (pe_callB (call_reprN hgd hU) (by rfl) T.n_repr PyProof.Rows.Boot.«repr» (pa_cons (pe_call G_is_document (hr.mono (by first | decide | omega)) (by rfl) T.m_is_document T.F_is_document.kp T.b_is_document .nil pass0 (pa_cons (pv 1) pa_nil)) pa_nil)) (pe_callB (call_reprN hgd hU) (by rfl) T.n_repr PyProof.Rows.Boot.«repr» (pa_cons (pv 2) pa_nil)) (nomark _)) (pss_one (ps_ret pe_bl)) pss_nil)
      (pss_cons (ps_set (i := 3) sc__law_one_right.nd rfl (Or.inl rfl) (pe_ifExp (pt_val (pv 2)) (pe_tup (pa_cons pe_str (pa_cons (pe_call G__law_parts (hr.mono (by first | decide | omega)) (by rfl) T.m__law_parts T.F__law_parts.kp T.b__law_parts .nil pass0 (pa_cons (pv 1) pa_nil)) pa_nil))) (pe_tup (pa_cons pe_str (pa_cons (pv 1) pa_nil)))))
      (pss_cons (ps_if (pt_cmpR op_ne (pe_callB (call_reprN hgd hU) (by rfl) T.n_repr PyProof.Rows.Boot.«repr» (pa_cons (pe_lamcall (T := tabsL P1 P2) (TT := THeard T.C_NoDocument) (k := 9) (by rfl) T.m__law_heard T.F__law_heard.kp lkh hch bh sc__law_heard rfl (Or.inl rfl) (heard_gives (X := (cxOf CX0 P w K mg base nOne "_law_one_right" (defScope s__law_one_right) T.a__law_one_right (.ref c1) A fr s H E).nox) T F) TB rfl (.head _) (tab_one hP) (hr.mono (by decide)) (lamS_by (sc := defScope s__law_one_right) (by decide +kernel)) rfl (fun _ _ _ _ _ => rfl) (fun A outer s H E f c' hr => pe_call G_size hr (by rfl) T.m_size T.F_size.kp T.b_size .nil (passes_call (takes_of rfl rfl rfl rfl) fun _ _ _ _ h => h) (pa_cons (pv 1) pa_nil))) pa_nil)) (pe_callB (call_reprN hgd hU) (by rfl) T.n_repr PyProof.Rows.Boot.«repr» (pa_cons (pv 3) pa_nil)) (nomark _)) (pss_one (ps_ret pe_bl)) pss_nil)
      (pss_cons (ps_if (pt_not (pt_val (pv 2))) (pss_one (ps_ret pe_bl)) pss_nil)
      (pss_cons (ps_set (i := 4) sc__law_one_right.nd rfl (Or.inl rfl) (pe_call G__law_bent (hr.mono (by first | decide | omega)) (by rfl) T.m__law_bent T.F__law_bent.kp T.b__law_bent .nil pass0 (pa_cons (pv 0) (pa_cons (pv 1) pa_nil))))
      (pss_cons (ps_if (PW.pt (pw_or (pt_not (pt_val (pe_callG G__law_two_right hgd (hr.mono (by first | decide | omega)) (by rfl) T.m__law_two_right T.F__law_two_right.kp T.b__law_two_right .nil pass0 (pa_cons (pv 1) (pa_cons (pv 4) pa_nil))))) (pw_or1 (pt_not (pt_val (pe_callG G__law_two_right hgd (hr.mono (by first | decide | omega)) (by rfl) T.m__law_two_right T.F__law_two_right.kp T.b__law_two_right .nil pass0 (pa_cons (pe_fz (pe_lst (pa_cons pe_bl (pa_cons pe_int pa_nil)))) (pa_cons (pe_fz (pe_lst (pa_cons pe_int (pa_cons (pe_call G__law_of (hr.mono (by first | decide | omega)) (by rfl) T.m__law_of T.F__law_of.kp T.b__law_of .nil pass0 (pa_cons (pv 0) (pa_cons (pe_lst (pa_cons pe_int (pa_cons pe_bl pa_nil))) pa_nil))) pa_nil)))) pa_nil)))))))) (pss_one (ps_ret pe_bl)) pss_nil)
      (pss_one (ps_ret (pe_cmpR op_isBl (pe_call G_same (hr.mono (by first | decide | omega)) (by rfl) T.m_same T.F_same.kp T.b_same .nil (passes_call L2.takes0 fun _ _ _ _ h => h) (pa_cons (pv 1) (pa_cons (pe_call G__law_turned (hr.mono (by first | decide | omega)) (by rfl) T.m__law_turned T.F__law_turned.kp T.b__law_turned .nil pass0 (pa_cons (pv 1) pa_nil)) pa_nil))) pe_bl (nomark _))))))))))), ?_⟩
  obtain ⟨w1, w2, w3⟩ := sz_ok od dd
  obtain ⟨x1, x2, x3⟩ := bl_ok (isDoc d)
  refine ⟨_, rfl, v, d, rfl, rd, od, dd, fun H1 s1 => ?_⟩
  refine ⟨_, rfl, v, d, rfl, rd.same s1, od, dd, fun H2 s2 => ⟨.bool (isDoc d), _, rfl, Rp.bl, x1, x2, by omega, _, rfl, .bool (isDoc d), _, rfl, Rp.bl, x1, x2, by omega, rfl, _, rfl, ?_⟩⟩
  rw [decide_eq_true rfl]
  refine iF ?_
  have s12 := s1.trans s2
  refine ⟨_, rfl, _, rfl, ?_⟩
  refine ways (fun x Hx => ∃ u, x = .ref u ∧ Same H Hx ∧ Rp Hx (szD d) x) ?_ ?_ ?_
  rotate_left
  · intro q K' hK'
    refine ⟨_, rfl, v, d, rfl, rd.same s12, od, dd, q, fun H3 s3 => ⟨len_ok (by show 2 ≤ 1000; decide), fun u nu => hK' _ _ ⟨u, rfl, s12.trans (s3.trans (same_new nu)), ?_⟩⟩⟩
    rw [szD, if_pos q]
    exact Rp.tup upd_same (RpL.cons Rp.str (RpL.cons Rp.int RpL.nil))
  · intro q K' hK'
    refine ⟨_, rfl, len_ok (by show 2 ≤ 1000; decide), fun u nu => hK' _ _ ⟨u, rfl, s12.trans (same_new nu), ?_⟩⟩
    rw [szD, if_neg (by rw [q]; decide)]
    exact Rp.tup upd_same (RpL.cons Rp.str (RpL.cons (rd.same (s12.trans (same_new nu))) RpL.nil))
  rintro x Hx ⟨u, rfl, sx, ru⟩
  refine ⟨tb.ext sx, fun Hy ex ty => ?_⟩
  have ey : ExtN H Hy := (ExtN.same sx).trans ex
  refine heard_use (fun x Hv => ∃ q, x = .ref q ∧ Same Hy Hv ∧ Rp Hv (szD d) x) ?_ ?_
  rotate_left
  · intro K' hK' Hz sz
    have ez : ExtN H Hz := ey.trans (ExtN.same sz)
    refine ⟨fun v H' => Same Hz H' ∧ v = .int (parts d) ∧ isDoc d = true,
      fun cls d' H' => ∃ (H'' : Hp) (dd : Addr), Same Hz H'' ∧ H'' dd = none ∧ cls = .ref T.C_NoDocument ∧ d' = some dd ∧ H' = upd H'' dd (.xd [("value", v)]) ∧ isDoc d = false, ?_, ?_, ?_⟩
    · exact ⟨_, rfl, v, d, rfl, rd.extN ez, od, dd, fun q H' s' => ⟨s', rfl, q⟩, fun q H' dd s' nd => ⟨H', dd, s', nd, rfl, rfl, rfl, q⟩⟩
    · rintro v' H' ⟨s', rfl, q⟩ p' np
      refine hK' _ _ ⟨p', rfl, sz.trans (s'.trans (same_new np)), ?_⟩
      rw [szD, if_pos q]
      exact Rp.tup upd_same (RpL.cons Rp.str (RpL.cons Rp.int RpL.nil))
    · rintro cls d' H' ⟨H'', dd, s', nd, rfl, rfl, rfl, q⟩
      refine ⟨dd, v, rfl, rfl, upd_same, fun H3 p' s3 hp' => ?_⟩
      have s4 : Same Hz H3 := s'.trans ((same_new nd).trans s3)
      refine hK' _ _ ⟨p', rfl, sz.trans s4, ?_⟩
      rw [szD, if_neg (by rw [q]; decide)]
      exact Rp.tup hp' (RpL.cons Rp.str (RpL.cons ((rd.extN ez).same s4) RpL.nil))
  rintro x Hv ⟨q, rfl, sv, rq⟩
  have ev : ExtN H Hv := ey.trans (ExtN.same sv)
  have tv := ty.ext sv
  refine ⟨szD d, _, rfl, rq, w1, w2, by omega, _, rfl, szD d, _, rfl, ru.extN (ex.trans (ExtN.same sv)), w1, w2, by omega, rfl, _, rfl, ?_⟩
  rw [decide_eq_true rfl]
  refine iF ?_
  have pv : PotAt Hv p c := hp.extN ev
  have rv : Rp Hv d v := rd.extN ev
  refine ⟨_, rfl, _, rfl, ?_⟩
  cases hq : isDoc d with
  | false => exact iT (k Hv (ExtB.ext ev) (pv.up (by omega)) tv)
  | true =>
    refine iF ?_
    refine ⟨_, rfl, _, rfl, p, v, c, d, rfl, pv, rv, od, hq, dd, by show c + 400 < _; omega, fun Hb vb db bb hpb rb gb => ?_⟩
    have kb : Kp Hv Hb := kp_but pv bb
    have tb' : Tabs (tabsL P1 P2) Hb := Tabs.but tv pv bb
    have xb : ExtB p H Hb := (ExtB.ext ev).trans (ExtB.but bb)
    have hdb := gb.dp
    refine ⟨_, rfl, _, rfl, v, vb, d, db, rfl, rv.keep kb, rb, ok_mono (by decide) od, gb.ok, by omega, by omega, tb', fun Hc ec tc => ⟨_, rfl, iF ?_⟩⟩
    have pc : PotAt Hc p (c + 400) := hpb.extN ec
    have xc : ExtB p H Hc := xb.trans (ExtB.ext ec)
    refine ⟨len_ok (by show 2 ≤ 1000; decide), fun l1 n1 => ⟨l1, _, rfl, upd_same, True.intro, fun oo1 => ?_⟩⟩
    have l1p := pc.ne n1
    obtain ⟨He, ee, se, re⟩ := g_lst (o := oo1) (ds := [.bool true, .int 0]) n1 (RpL.cons Rp.bl (RpL.cons Rp.int RpL.nil))
    rw [ee]
    refine ⟨_, rfl, len_ok (by show 2 ≤ 1000; decide), fun l2 n2 => ?_⟩
    have pe := pc.same se
    have l2p := pe.ne n2
    have s2' : Same He (upd He l2 (.lst [.int 0, .bl false])) := same_new n2
    have h2' : upd He l2 (.lst [.int 0, .bl false]) l2 = some (.lst [.int 0, .bl false]) := upd_same
    generalize upd He l2 (.lst [.int 0, .bl false]) = Hf at s2' h2' ⊢
    refine ⟨p, l2, c + 400, _, rfl, pe.same s2', by omega, SqL.of h2', l2p, by simp, by show 2 < 1000; decide, fun Hg vg bg hpg mg' => ⟨len_ok (by show 2 ≤ 1000; decide), fun l3 n3 => ⟨l3, _, rfl, upd_same, True.intro, fun oo3 => ?_⟩⟩⟩
    have kg : Kp Hf Hg := kp_but (pe.same s2') bg
    obtain ⟨dg, rg, og, dpg⟩ : ∃ dg, Rp Hg dg vg ∧ okD 4 dg = true ∧ dg.depth = 0 := by
      simp only [List.mem_cons, List.not_mem_nil, or_false] at mg'
      rcases mg' with rfl | rfl
      · exact ⟨.int 0, Rp.int, by decide +kernel, by simp [PyData.depth]⟩
      · exact ⟨.bool false, Rp.bl, by decide +kernel, by simp [PyData.depth]⟩
    obtain ⟨Hh, eh, sh, rh⟩ := g_lst (o := oo3) (ds := [.int 1, dg]) n3 (RpL.cons Rp.int (RpL.cons rg RpL.nil))
    rw [eh]
    have xh : ExtB p H Hh := xc.trans ((ExtB.ext (ExtN.same (se.trans s2'))).trans ((ExtB.but bg).trans (ExtB.ext (ExtN.same sh))))
    have th : Tabs (tabsL P1 P2) Hh := (Tabs.but ((tc.ext se).ext s2') (pe.same s2') bg).ext sh
    refine ⟨_, _, .list [.bool true, .int 0], .list [.int 1, dg], rfl, (re.keep ((Kp.same s2').trans (kg.trans (Kp.same sh)))), rh, by decide +kernel, ?_, by simp [PyData.depth, PyData.depthAll], by simp [PyData.depth, PyData.depthAll, dpg], th, fun Hi ei ti => ⟨_, rfl, iF ?_⟩⟩
    · simp only [okD, okL, og, Bool.and_true, Bool.and_eq_true, decide_eq_true_eq]
      exact ⟨by show 2 ≤ 4; decide, by decide +kernel⟩
    have xi : ExtB p H Hi := xh.trans (ExtB.ext ei)
    have ri : Rp Hi d v := rd.keep (xi.kp hp)
    refine ⟨_, rfl, _, rfl, v, d, rfl, ri, od, hq, dd, fun Hj vj dj sj rj tn => ?_⟩
    refine ⟨v, vj, d, dj, rfl, ri.same sj, rj, od, tn.ok, dd, (by have := tn.dp; omega), fun _ _ Hk sk => ?_, fun z => absurd hq (by rw [z]; decide), fun _ z => absurd tn.dc (by rw [z]; decide)⟩
    refine ⟨_, _, rfl, rfl, ?_⟩
    rw [tn.sm, decide_eq_true rfl]
    refine k Hk (xi.trans (ExtB.ext (ExtN.same (sj.trans sk)))) ?_ ((ti.ext sj).ext sk)
    exact (((((hpg.same sh).extN ei).same sj).same sk)).up (by omega)
end
end K00
end
section
set_option Elab.async false
set_option linter.all false
set_option maxRecDepth 100000
set_option maxHeartbeats 8000000
set_option pp.maxSteps 1200
namespace K00
open PySem PySem.Spec PyProof.Rows L2 Tg LamX
local macro_rules | `(tactic| walk_at "c") => `(tactic| first | assumption | trivial | omega | (constructor <;> omega) | decide | exact len_ok (Nat.le_of_ble_eq_true rfl))
local macro_rules | `(tactic| walk_at "sq") => `(tactic| first | exact SqL.of (by assumption) | exact SqL.of upd_same | assumption | exact SqT.of (by assumption) | exact SqT.of upd_same | exact .inl (SqL.of (by assumption)) | exact .inr (SqT.of (by assumption)))
local macro_rules | `(tactic| walk_at "r1") => `(tactic| first
  | refine ⟨_, rfl, ?_⟩
  | refine ⟨_, _, rfl, rfl, ?_⟩
  | refine .inl ⟨_, rfl, ?_⟩
  | refine .inr ⟨_, rfl, ?_⟩
  | (apply Exists.intro; apply Exists.intro; apply Exists.intro; apply Exists.intro; refine And.intro rfl (And.intro rfl (And.intro ?sq ?_)); (case sq => walk_at "sq"); refine And.intro rfl ?_)
  | (apply Exists.intro; apply Exists.intro; apply Exists.intro; apply Exists.intro; refine And.intro rfl (And.intro rfl (And.intro ?hp ?_)); (case hp => first | assumption | exact upd_same); refine And.intro rfl ?_)
  | (refine And.intro ?c ?_; (case c => walk_at "c")))
local macro_rules | `(tactic| walk_at "r") => `(tactic| repeat walk_at "r1")
def spLaw (K : PySem.W.Frag) (P1 P2 : Addr) : Sp := fun vs H Q _ => ∃ (a : Addr) (ns : List Int), vs = [.ref a] ∧ SqL K H a (ns.map V.int) ∧ ns.length ≤ 63 ∧ Tabs (tabsL P1 P2) H ∧ ∀ H', Q (.bl true) H'
def cnt (m : Nat) : Int := if (if (m : Int) < 3 then (m : Int) else 3) > 1 then (if (m : Int) < 3 then (m : Int) else 3) else 1
theorem cnt_ok (m : Nat) : 1 ≤ cnt m ∧ cnt m ≤ 3 := by
  unfold cnt
  by_cases h : (m : Int) < 3
  · rw [if_pos h]
    by_cases h2 : (m : Int) > 1
    · rw [if_pos h2]
      omega
    · rw [if_neg h2]
      omega
  · rw [if_neg h]
    decide
theorem cnt_lo (m : Nat) : -(2 ^ 62) ≤ cnt m := by
  have := cnt_ok m
  omega
theorem cnt_hi (m : Nat) : cnt m < 2 ^ 62 := by
  have := cnt_ok m
  omega
theorem trues : ∀ {xs : List V}, (∀ (i : Nat) v, xs[i]? = some v → v = .bl true) → xs = (List.replicate xs.length true).map V.bl
  | [], _ => rfl
  | x :: xs, h => by
    have h1 := h 0 x rfl
    have h2 := trues (xs := xs) fun i v z => h (i + 1) v (by simpa using z)
    subst h1
    rw [List.length_cons, List.replicate_succ, List.map_cons, ← h2]
theorem all_rep : ∀ n : Nat, (List.replicate n true).all id = true
  | 0 => rfl
  | n + 1 => by
    show (id true && (List.replicate n true).all id) = true
    rw [all_rep n]
    rfl
theorem sq_ext {K : PySem.W.Frag} {l : Addr} {H H' : Hp} {xs : List V} (b : ExtN H H') (h : SqL K H l xs) : SqL K H' l xs := by
  rcases h with (h | ⟨o, h⟩) | h
  · exact .inl (.inl (b _ _ h (fun _ z => nomatch z)))
  · exact .inl (.inr ⟨o, b _ _ h (fun _ z => nomatch z)⟩)
  · exact .inr h
theorem extB_put {H1 H : Hp} {p D : Addr} {o : HO} (nD : H1 D = none) (s : ExtB p H1 H) : ExtB p H1 (upd H D o) := fun b u n t e => by
  rw [upd_ne (ne_of_none e nD)]
  exact s b u n t e
theorem tabs_put {T : List (Addr × Str)} {H : Hp} {D : Addr} {xs ys : List V} (t : Tabs T H) (h : H D = some (.lst ys)) : Tabs T (upd H D (.lst xs)) := by
  intro q hq
  obtain ⟨ps, h1, h2, h3⟩ := t q hq
  refine ⟨ps, by rw [upd_ne (ne_of h1 h (fun z => nomatch z))]; exact h1, h2, fun pos cv hc => ?_⟩
  obtain ⟨c', e1, e2⟩ := h3 pos cv hc
  exact ⟨c', e1, by rw [upd_ne (ne_of e2 h (fun z => by unfold CodeO at z; cases z))]; exact e2⟩
section
variable {P : Program} {w : World} {K : PySem.W.Frag} {mg : Str → Option Value} {base : Heap}
theorem ok_law (T : Tx P K mg) (F : Fx T) {P1 P2 c1 c2 : Addr} (hP : P1 ≠ P2) (TB : TabB base mg c1 P1) (TB2 : TabB base mg c2 P2) (FC : FunC K "_law_one_right" "_law_one_right" s__law_one_right T.a__law_one_right T.fd__law_one_right c1)
    (FC2 : FunC K "_law_two_right" "_law_two_right" s__law_two_right T.a__law_two_right T.fd__law_two_right c2) :
    FnG P w K mg base CX0 16 T.a_law T.fd_law ["_law_script"] (spLaw K P1 P2) := by
  have G__law_pot_of := ok_pot (w := w) (base := base) T
  have G__law_odd := ok_odd (w := w) (base := base) T 4
  have G__law_one_right := ok_oneR (w := w) (base := base) T F hP TB TB2 FC FC2
  have G__law_two_right := ok_two (w := w) (base := base) T F hP TB2 FC2
  refine funG T.F_law sc_law (fun vs H Q E h => ?_) (fun cdv A outer s H vs Q E hgd hr h => ?_)
  · obtain ⟨a, ns, rfl, _⟩ := h
    rfl
  obtain ⟨a, ns, rfl, ha, hz, tb, k⟩ := h
  refine ⟨_, (pss_cons (ps_for PassesOwn.never rfl (pi_range1 (by rfl) T.n_range (pa_cons (pe_callB (call_max2 rfl) (by rfl) T.n_max PyProof.Rows.Boot.«max» (pa_cons pe_int (pa_cons (pe_callB (call_min2 rfl) (by rfl) T.n_min PyProof.Rows.Boot.«min» (pa_cons pe_int (pa_cons (pe_callB call_len (by rfl) T.n_len PyProof.Rows.Boot.«len» (pa_cons (pv 0) pa_nil)) pa_nil))) pa_nil))) pa_nil)) (pg_name (i := 1) sc_law.nd rfl (Or.inl rfl)) (pss_cons (ps_set (i := 2) sc_law.nd rfl (Or.inr rfl) (pe_call G__law_pot_of (hr.mono (by first | decide | omega)) (by rfl) T.m__law_pot_of T.F__law_pot_of.kp T.b__law_pot_of .nil pass0 (pa_cons (pv 0) (pa_cons (pv 1) pa_nil))))
      (pss_cons (ps_setLc (i := 3) (own := [("_law_turn", 4)]) (g := gName 4) (tt := tYes) (by rfl) sc_law.nd rfl rfl (sw_true rfl rfl rfl (by decide +kernel)) (pi_range1 (by rfl) T.n_range (pa_cons pe_int pa_nil)) (blkOk_by (own := [("_law_turn", 4)]) (N := ["_law_script", "_law_k", "_law_pot", "_law_some", "_law_turn", "_law_value", "_law_one", "_law_other"]) (sc := defScope s_law) (by decide +kernel)) (fun _ _ _ _ _ => (pg_name (i := 4) sc_law.nd rfl (Or.inl rfl))) (fun _ _ _ _ _ => pts_nil) (fun _ _ _ _ _ => (pe_call G__law_odd (hr.mono (by first | decide | omega)) (by rfl) T.m__law_odd T.F__law_odd.kp T.b__law_odd .nil pass0 (pa_cons (pv 2) (pa_cons pe_int pa_nil)))))
      (pss_cons (ps_if (pt_not (pt_val (pe_callB (cr_all rfl) (by rfl) T.n_all PyProof.Rows.Boot.«all» (pa_cons (pe_lc (own := [("_law_value", 5)]) (g := gName 5) (tt := tYes) (by rfl) sc_law.nd (pi_list (pv 3)) (blkOk_by (own := [("_law_value", 5)]) (N := ["_law_script", "_law_k", "_law_pot", "_law_some", "_law_turn", "_law_value", "_law_one", "_law_other"]) (sc := defScope s_law) (by decide +kernel)) (fun _ _ _ _ _ => (pg_name (i := 5) sc_law.nd rfl (Or.inl rfl))) (fun _ _ _ _ _ => pts_nil) (fun _ _ _ _ _ => (pe_callG G__law_one_right hgd (hr.mono (by first | decide | omega)) (by rfl) T.m__law_one_right T.F__law_one_right.kp T.b__law_one_right .nil pass0 (pa_cons (pv 2) (pa_cons (pv 5) pa_nil))))) pa_nil)))) (pss_one (ps_ret pe_bl)) pss_nil)
      (pss_one (ps_if (pt_not (pt_val (pe_callB (cr_all rfl) (by rfl) T.n_all PyProof.Rows.Boot.«all» (pa_cons (pe_lc (own := [("_law_one", 6), ("_law_other", 7)]) (g := gTup K 2 (gCons (gName 6) (gCons (gName 7) (gNil)))) (tt := tYes) (by rfl) sc_law.nd (pi_zip (by rfl) T.n_zip (pa_cons (pv 3) (pa_cons (pe_slice sl_list (pv 3) (po_some pe_int) po_none) pa_nil))) (blkOk_by (own := [("_law_one", 6), ("_law_other", 7)]) (N := ["_law_script", "_law_k", "_law_pot", "_law_some", "_law_turn", "_law_value", "_law_one", "_law_other"]) (sc := defScope s_law) (by decide +kernel)) (fun _ _ _ _ _ => (pg_tup rfl (pgs_cons (pg_name (i := 6) sc_law.nd rfl (Or.inl rfl)) (pgs_cons (pg_name (i := 7) sc_law.nd rfl (Or.inl rfl)) pgs_nil)))) (fun _ _ _ _ _ => pts_nil) (fun _ _ _ _ _ => (pe_callG G__law_two_right hgd (hr.mono (by first | decide | omega)) (by rfl) T.m__law_two_right T.F__law_two_right.kp T.b__law_two_right .nil pass0 (pa_cons (pv 6) (pa_cons (pv 7) pa_nil))))) pa_nil)))) (pss_one (ps_ret pe_bl)) pss_nil))))))
      (pss_one (ps_ret pe_bl))), ?_⟩
  have hc := cnt_ok (ns.map V.int).length
  refine ⟨_, rfl, _, _, rfl, .inl ⟨_, ha, rfl⟩, _, _, rfl, _, _, rfl, _, rfl, cnt_lo _, cnt_hi _, for_it walk_range (fun i σ H3 => ∃ x1 x2 x3, σ = [some (.ref a), x1, x2, x3, none, none, none, none] ∧ ExtN H H3 ∧ Tabs (tabsL P1 P2) H3) ⟨none, none, none, rfl, ExtN.refl _, tb⟩ (fun _ _ _ _ _ => trivial) ?_ fun σ H3 _ => k H3⟩
  rintro i x σ H3 H4 hi ⟨x1, x2, x3, rfl, s3, t3⟩ ⟨rfl, rfl⟩
  have hi3 : (i : Int) < 3 := by
    have h3 : i < (cnt (ns.map V.int).length).toNat := hi
    omega
  refine ⟨_, rfl, _, rfl, a, ns, _, rfl, sq_ext s3 ha, hz, by omega, by omega, fun H5 p s5 np hp => ?_⟩
  have t5 := t3.ext s5
  refine ⟨(6 : Int), rfl, by decide, by decide, fun D nD => ?_⟩
  have Dp := hp.ne nD
  refine lc_gen walk_range (fun j H6 => But p H5 H6 ∧ PotAt H6 p (1700 * (j : Int))) (fun _ v H6 => ∃ d, Gd 3 4 false d ∧ Rp H6 d v) (fun j H6 xs ys a _ => ⟨but_put nD a.1, a.2.put Dp⟩) (fun _ v H6 H7 ⟨d, g, r⟩ kp => ⟨d, g, r.keep kp⟩) (by decide)
    ⟨But.same (same_new nD), (hp.put Dp).up (by omega)⟩ (fun _ _ _ _ => trivial) ?_ ?_
  · rintro j x H6 H7 acc hj ⟨b6, hp6⟩ hD ⟨rfl, rfl⟩ Qc kc
    have hj6 : j < 6 := hj
    refine ⟨rfl, _, rfl, p, 1700 * (j : Int), rfl, hp6, by show _ + 1700 < _; omega, fun H8 v d b8 hp8 r8 g8 => kc v H8 (b8 _ _ Dp hD) (kp_but hp6 b8) ⟨b6.trans b8, hp8.up (by show _ + 1700 ≤ _; omega)⟩ ⟨d, g8, r8⟩⟩
  rintro H6 xs ⟨b6, hp6⟩ hD hl hr6
  have t6 : Tabs (tabsL P1 P2) H6 := Tabs.but t5 hp b6
  have hxs : xs.length = 6 := hl
  -- each by itself
  refine ⟨_, rfl, D, rfl, ⟨xs, SqL.of hD⟩, fun D2 nD2 => ?_⟩
  have D2p := hp6.ne nD2
  have DD2 : D ≠ D2 := ne_of_none hD nD2
  refine lc_gen (walk_list (xs := xs)) (fun j H7 => ExtB p H6 H7 ∧ PotAt H7 p (10200 + 410 * (j : Int)) ∧ Tabs (tabsL P1 P2) H7 ∧ H7 D = some (.lst xs)) (fun _ v _ => v = .bl true) (fun j H7 xs ys a hy => ⟨extB_put nD2 a.1, a.2.1.put D2p, tabs_put a.2.2.1 hy, by rw [upd_ne DD2]; exact a.2.2.2⟩) (fun _ v _ _ e _ => e) (by omega)
    ⟨extB_put nD2 (ExtB.ext (ExtN.refl _)), (hp6.put D2p).up (by show 1700 * (6 : Int) ≤ _; omega), t6.ext (same_new nD2), by rw [upd_ne DD2]; exact hD⟩ (fun _ H7 _ a => SqL.of a.2.2.2) ?_ ?_
  · rintro j x H7 H7' acc hj ⟨x7, hp7, t7, hD7⟩ hD2 ⟨e7, hx⟩ Qc kc
    subst e7
    have hj6 : j < 6 := by omega
    obtain ⟨d, g, r⟩ := hr6 j x hx
    have r7 : Rp H7' d x := r.keep (x7.kp hp6)
    have gd := g.dp
    refine ⟨rfl, _, rfl, _, rfl, p, x, 10200 + 410 * (j : Int), d, rfl, hp7, by omega, r7, g.ok, by omega, t7, fun H8 x8 hp8 t8 => kc _ H8 (x8 _ _ D2p (fun _ z => nomatch z) hD2) (x8.kp hp7) ⟨x7.trans x8, hp8.up (by omega), t8, x8 _ _ Dp (fun _ z => nomatch z) hD7⟩ rfl⟩
  rintro H7 ys ⟨x7, hp7, t7, hD7⟩ hD27 hl7 hy7
  have ey := trues hy7
  refine ⟨D2, List.replicate ys.length true, rfl, SqL.of (by rw [← ey]; exact hD27), true, by rw [all_rep], iF ?_⟩
  -- two beside one another
  refine ⟨_, rfl, _, rfl, _, rfl, D, xs, rfl, SqL.of hD7, fun L nL => ⟨D, L, xs, xs.drop 1, rfl, ?_, ?_, fun D3 nD3 => ?_⟩⟩
  · exact SqL.of (same_new nL _ _ hD7)
  · exact SqL.of (by rw [upd_same, cut_from (by omega) (by omega)]; rfl)
  rw [cut_from (by omega) (by omega)] at nD3 ⊢
  have s8 : Same H7 (upd H7 L (.lst (xs.drop (1 : Int).toNat))) := same_new nL
  have hL8 : upd H7 L (.lst (xs.drop (1 : Int).toNat)) L = some (.lst (xs.drop (1 : Int).toNat)) := upd_same
  generalize upd H7 L (.lst (xs.drop (1 : Int).toNat)) = H8 at s8 hL8 nD3 ⊢
  have hp8 := hp7.same s8
  have t8 := t7.ext s8
  have hD8 := s8 _ _ hD7
  have D3p := hp8.ne nD3
  have DD3 : D ≠ D3 := ne_of_none hD8 nD3
  have LD3 : L ≠ D3 := ne_of_none hL8 nD3
  have xr8 : ∀ (j : Nat) v, xs[j]? = some v → ∃ d, Gd 3 4 false d ∧ Rp H8 d v := fun j v e => by
    obtain ⟨d, g, r⟩ := hr6 j v e
    exact ⟨d, g, (r.keep (x7.kp hp6)).same s8⟩
  have ln : 5 = min xs.length (xs.drop (1 : Int).toNat).length := by
    rw [List.length_drop, hxs]
    rfl
  refine lc_gen (walk_zip (xs := xs) (ys := xs.drop (1 : Int).toNat) ln) (fun j H9 => ExtN H8 H9 ∧ Tabs (tabsL P1 P2) H9 ∧ H9 D = some (.lst xs) ∧ H9 L = some (.lst (xs.drop (1 : Int).toNat))) (fun _ v _ => v = .bl true)
    (fun j H9 xs ys a hy => ⟨fun b o e t => by rw [upd_ne (ne_of_none e nD3)]; exact a.1 b o e t, tabs_put a.2.1 hy, by rw [upd_ne DD3]; exact a.2.2.1, by rw [upd_ne LD3]; exact a.2.2.2⟩) (fun _ v _ _ e _ => e) (by decide)
    ⟨ExtN.same (same_new nD3), t8.ext (same_new nD3), by rw [upd_ne DD3]; exact hD8, by rw [upd_ne LD3]; exact hL8⟩ (fun _ H9 _ a => ⟨SqL.of a.2.2.1, SqL.of a.2.2.2⟩) ?_ ?_
  · rintro j x H9 Ha acc hj ⟨x9, t9, hD9, hL9⟩ hD3 ⟨T2, x, y, rfl, nT, rfl, hx, hy⟩ Qc kc
    obtain ⟨dx, gx, rx⟩ := xr8 j x hx
    obtain ⟨dy, gy, ry⟩ := xr8 (1 + j) y (by have hy' : (xs.drop (1 : Int).toNat)[j]? = some y := hy; rw [List.getElem?_drop] at hy'; exact hy')
    have sa : Same H9 (upd H9 T2 (.tup [x, y])) := same_new nT
    have ea : ExtN H8 (upd H9 T2 (.tup [x, y])) := x9.trans (ExtN.same sa)
    have gdx := gx.dp
    have gdy := gy.dp
    refine ⟨T2, _, rfl, SqT.of upd_same, rfl, x, _, rfl, y, _, rfl, rfl, rfl, ?_⟩
    refine ⟨_, rfl, _, rfl, x, y, dx, dy, rfl, rx.extN ea, ry.extN ea, ok_mono (by decide) gx.ok, ok_mono (by decide) gy.ok, by omega, by omega, t9.ext sa, fun Hb eb tb => kc _ Hb (eb _ _ (sa _ _ hD3) (fun _ z => nomatch z)) ((Kp.same sa).trans (ExtN.kp eb)) ⟨ea.trans eb, tb, eb _ _ (sa _ _ hD9) (fun _ z => nomatch z), eb _ _ (sa _ _ hL9) (fun _ z => nomatch z)⟩ rfl⟩
  rintro H9 zs ⟨x9, t9, hD9, hL9⟩ hD39 hl9 hz9
  have ez := trues hz9
  refine ⟨D3, List.replicate zs.length true, rfl, SqL.of (by rw [← ez]; exact hD39), true, by rw [all_rep], iF ?_⟩
  refine ⟨_, _, _, rfl, fun b o e t => ?_, t9⟩
  have bp : b ≠ p := ne_of_none (s3 b o e t) np
  exact x9 b o (s8 b o (x7 b o bp t (b6 b o bp (s5 b o (s3 b o e t))))) t
end
end K00
end
set_option Elab.async false
set_option linter.all false
set_option maxRecDepth 100000
set_option maxHeartbeats 8000000
namespace K00
open PySem PySem.Spec PyProof.Rows L2 Tg LamX
def tx_mk {P : Program} {K : PySem.W.Frag} {h : Heap} {mg : Str → Option Value} (X : K.In h) (G : h.Ns mainGlobals mg)
    {C0 fI cda cc : Addr} {ql file : Str} {kV dc pm ct oc ccl cl : Value} {an od cdd cld : Option Addr} {sl ccs csl : Array (Option Value)} {vs : Array Value} {tf : Tok} {cdD : ClassData}
    {C_TaglessError C_NoDocument : Addr}
    {t_MOST_LETTERS : Tok}
    {a_is_name : Addr} {od_is_name an_is_name : Option Addr} {sl_is_name : Array (Option Value)} {oc_is_name kV_is_name dc_is_name pm_is_name cd_is_name ct_is_name : Value}
    {a_is_document : Addr} {od_is_document an_is_document : Option Addr} {sl_is_document : Array (Option Value)} {oc_is_document kV_is_document dc_is_document pm_is_document cd_is_document ct_is_document : Value}
    {a_check_document : Addr} {od_check_document an_check_document : Option Addr} {sl_check_document : Array (Option Value)} {oc_check_document kV_check_document dc_check_document pm_check_document cd_check_document ct_check_document : Value}
    {a_are_same : Addr} {od_are_same an_are_same : Option Addr} {sl_are_same : Array (Option Value)} {oc_are_same kV_are_same dc_are_same pm_are_same cd_are_same ct_are_same : Value}
    {a_same : Addr} {od_same an_same : Option Addr} {sl_same : Array (Option Value)} {oc_same kV_same dc_same pm_same cd_same ct_same : Value}
    {a_parts_in : Addr} {od_parts_in an_parts_in : Option Addr} {sl_parts_in : Array (Option Value)} {oc_parts_in kV_parts_in dc_parts_in pm_parts_in cd_parts_in ct_parts_in : Value}
    {a_size : Addr} {od_size an_size : Option Addr} {sl_size : Array (Option Value)} {oc_size kV_size dc_size pm_size cd_size ct_size : Value}
    {a__law_pot_of : Addr} {od__law_pot_of an__law_pot_of : Option Addr} {sl__law_pot_of : Array (Option Value)} {oc__law_pot_of kV__law_pot_of dc__law_pot_of pm__law_pot_of cd__law_pot_of ct__law_pot_of : Value}
    {a__law_take : Addr} {od__law_take an__law_take : Option Addr} {sl__law_take : Array (Option Value)} {oc__law_take kV__law_take dc__law_take pm__law_take cd__law_take ct__law_take : Value}
    {a__law_of : Addr} {od__law_of an__law_of : Option Addr} {sl__law_of : Array (Option Value)} {oc__law_of kV__law_of dc__law_of pm__law_of cd__law_of ct__law_of : Value}
    {a__law_unlike : Addr} {od__law_unlike an__law_unlike : Option Addr} {sl__law_unlike : Array (Option Value)} {oc__law_unlike kV__law_unlike dc__law_unlike pm__law_unlike cd__law_unlike ct__law_unlike : Value}
    {a__law_flat : Addr} {od__law_flat an__law_flat : Option Addr} {sl__law_flat : Array (Option Value)} {oc__law_flat kV__law_flat dc__law_flat pm__law_flat cd__law_flat ct__law_flat : Value}
    {a__law_any : Addr} {od__law_any an__law_any : Option Addr} {sl__law_any : Array (Option Value)} {oc__law_any kV__law_any dc__law_any pm__law_any cd__law_any ct__law_any : Value}
    {a__law_bent : Addr} {od__law_bent an__law_bent : Option Addr} {sl__law_bent : Array (Option Value)} {oc__law_bent kV__law_bent dc__law_bent pm__law_bent cd__law_bent ct__law_bent : Value}
    {a__law_ink : Addr} {od__law_ink an__law_ink : Option Addr} {sl__law_ink : Array (Option Value)} {oc__law_ink kV__law_ink dc__law_ink pm__law_ink cd__law_ink ct__law_ink : Value}
    {a__law_heard : Addr} {od__law_heard an__law_heard : Option Addr} {sl__law_heard : Array (Option Value)} {oc__law_heard kV__law_heard dc__law_heard pm__law_heard cd__law_heard ct__law_heard : Value}
    {a__law_is_one : Addr} {od__law_is_one an__law_is_one : Option Addr} {sl__law_is_one : Array (Option Value)} {oc__law_is_one kV__law_is_one dc__law_is_one pm__law_is_one cd__law_is_one ct__law_is_one : Value}
    {a__law_parts : Addr} {od__law_parts an__law_parts : Option Addr} {sl__law_parts : Array (Option Value)} {oc__law_parts kV__law_parts dc__law_parts pm__law_parts cd__law_parts ct__law_parts : Value}
    {a__law_odd : Addr} {od__law_odd an__law_odd : Option Addr} {sl__law_odd : Array (Option Value)} {oc__law_odd kV__law_odd dc__law_odd pm__law_odd cd__law_odd ct__law_odd : Value}
    {a__law_turned : Addr} {od__law_turned an__law_turned : Option Addr} {sl__law_turned : Array (Option Value)} {oc__law_turned kV__law_turned dc__law_turned pm__law_turned cd__law_turned ct__law_turned : Value}
    {a__law_two_right : Addr} {od__law_two_right an__law_two_right : Option Addr} {sl__law_two_right : Array (Option Value)} {oc__law_two_right kV__law_two_right dc__law_two_right pm__law_two_right cd__law_two_right ct__law_two_right : Value}
    {a__law_one_right : Addr} {od__law_one_right an__law_one_right : Option Addr} {sl__law_one_right : Array (Option Value)} {oc__law_one_right kV__law_one_right dc__law_one_right pm__law_one_right cd__law_one_right ct__law_one_right : Value}
    {a_law : Addr} {od_law an_law : Option Addr} {sl_law : Array (Option Value)} {oc_law kV_law dc_law pm_law cd_law ct_law : Value}
    (aD : PySem.W.nsIn K mainGlobals "TaglessError" = some (some (.ref C0)))
    (iD : PySem.W.findIn K (.ref C0) "__init__" = some (some (.ref fI)))
    (iL : K.lookup fI = some ⟨oc, od, .func (iFn ql .none kV dc pm an cda ct cc), sl⟩)
    (iC : PySem.W.codeIn K (.ref cda) ql = true)
    (iO : K.lookup cda = some ⟨ccl, cdd, .fields vs, ccs⟩)
    (iV : vs[2]? = some (.str file tf))
    (iF : ((P.main.file : Str) == file) = true)
    (iE : K.lookup cc = some ⟨cl, cld, .cell (some (.ref C0)), csl⟩)
    (iK : PySem.W.clsIn K C0 = some cdD)
    (iS : PySem.W.nsIn K mainGlobals "super" = some none)
    (iT : PySem.W.nsIn K cStatics "thirdparty.any" = some none)
    (iP : (P.main.scope.names.lookup ("super" : Str)).isSome = false)
    (iY : PySem.W.typeIn K (.ref fI) = some (.type "function"))
    (aC_TaglessError : PySem.W.nsIn K mainGlobals "TaglessError" = some (some (.ref C_TaglessError)))
    (aC_NoDocument : PySem.W.nsIn K mainGlobals "NoDocument" = some (some (.ref C_NoDocument)))
    (eC : ([C_TaglessError, C_NoDocument].all fun c => errB K fI C0 c) = true)
    (k_MOST_LETTERS : PySem.W.nsIn K mainGlobals "MOST_LETTERS" = some (some (.int 8 t_MOST_LETTERS)))
    (z_ValueError : PySem.W.nsIn K mainGlobals "ValueError" = some none)
    (z_abs : PySem.W.nsIn K mainGlobals "abs" = some none)
    (z_all : PySem.W.nsIn K mainGlobals "all" = some none)
    (z_bool : PySem.W.nsIn K mainGlobals "bool" = some none)
    (z_dict : PySem.W.nsIn K mainGlobals "dict" = some none)
    (z_int : PySem.W.nsIn K mainGlobals "int" = some none)
    (z_isinstance : PySem.W.nsIn K mainGlobals "isinstance" = some none)
    (z_len : PySem.W.nsIn K mainGlobals "len" = some none)
    (z_list : PySem.W.nsIn K mainGlobals "list" = some none)
    (z_max : PySem.W.nsIn K mainGlobals "max" = some none)
    (z_min : PySem.W.nsIn K mainGlobals "min" = some none)
    (z_range : PySem.W.nsIn K mainGlobals "range" = some none)
    (z_repr : PySem.W.nsIn K mainGlobals "repr" = some none)
    (z_sorted : PySem.W.nsIn K mainGlobals "sorted" = some none)
    (z_str : PySem.W.nsIn K mainGlobals "str" = some none)
    (z_sum : PySem.W.nsIn K mainGlobals "sum" = some none)
    (z_tuple : PySem.W.nsIn K mainGlobals "tuple" = some none)
    (z_zip : PySem.W.nsIn K mainGlobals "zip" = some none)
    (aF_is_name : PySem.W.nsIn K mainGlobals "is_name" = some (some (.ref a_is_name)))
    (l_is_name : K.lookup a_is_name = some ⟨oc_is_name, od_is_name, .func (PySem.W.fnOf "is_name" "is_name" (defArgs s_is_name) (defBody s_is_name) (defScope s_is_name) .none kV_is_name dc_is_name pm_is_name an_is_name cd_is_name ct_is_name), sl_is_name⟩)
    (c_is_name : PySem.W.codeIn K cd_is_name "is_name" = true)
    (k_is_name : PySem.W.keepIn K (.ref a_is_name) = true)
    (aF_is_document : PySem.W.nsIn K mainGlobals "is_document" = some (some (.ref a_is_document)))
    (l_is_document : K.lookup a_is_document = some ⟨oc_is_document, od_is_document, .func (PySem.W.fnOf "is_document" "is_document" (defArgs s_is_document) (defBody s_is_document) (defScope s_is_document) .none kV_is_document dc_is_document pm_is_document an_is_document cd_is_document ct_is_document), sl_is_document⟩)
    (c_is_document : PySem.W.codeIn K cd_is_document "is_document" = true)
    (k_is_document : PySem.W.keepIn K (.ref a_is_document) = true)
    (aF_check_document : PySem.W.nsIn K mainGlobals "check_document" = some (some (.ref a_check_document)))
    (l_check_document : K.lookup a_check_document = some ⟨oc_check_document, od_check_document, .func (PySem.W.fnOf "check_document" "check_document" (defArgs s_check_document) (defBody s_check_document) (defScope s_check_document) .none kV_check_document dc_check_document pm_check_document an_check_document cd_check_document ct_check_document), sl_check_document⟩)
    (c_check_document : PySem.W.codeIn K cd_check_document "check_document" = true)
    (k_check_document : PySem.W.keepIn K (.ref a_check_document) = true)
    (aF_are_same : PySem.W.nsIn K mainGlobals "are_same" = some (some (.ref a_are_same)))
    (l_are_same : K.lookup a_are_same = some ⟨oc_are_same, od_are_same, .func (PySem.W.fnOf "are_same" "are_same" (defArgs s_are_same) (defBody s_are_same) (defScope s_are_same) .none kV_are_same dc_are_same pm_are_same an_are_same cd_are_same ct_are_same), sl_are_same⟩)
    (c_are_same : PySem.W.codeIn K cd_are_same "are_same" = true)
    (k_are_same : PySem.W.keepIn K (.ref a_are_same) = true)
    (aF_same : PySem.W.nsIn K mainGlobals "same" = some (some (.ref a_same)))
    (l_same : K.lookup a_same = some ⟨oc_same, od_same, .func (PySem.W.fnOf "same" "same" (defArgs s_same) (defBody s_same) (defScope s_same) .none kV_same dc_same pm_same an_same cd_same ct_same), sl_same⟩)
    (c_same : PySem.W.codeIn K cd_same "same" = true)
    (k_same : PySem.W.keepIn K (.ref a_same) = true)
    (aF_parts_in : PySem.W.nsIn K mainGlobals "parts_in" = some (some (.ref a_parts_in)))
    (l_parts_in : K.lookup a_parts_in = some ⟨oc_parts_in, od_parts_in, .func (PySem.W.fnOf "parts_in" "parts_in" (defArgs s_parts_in) (defBody s_parts_in) (defScope s_parts_in) .none kV_parts_in dc_parts_in pm_parts_in an_parts_in cd_parts_in ct_parts_in), sl_parts_in⟩)
    (c_parts_in : PySem.W.codeIn K cd_parts_in "parts_in" = true)
    (k_parts_in : PySem.W.keepIn K (.ref a_parts_in) = true)
    (aF_size : PySem.W.nsIn K mainGlobals "size" = some (some (.ref a_size)))
    (l_size : K.lookup a_size = some ⟨oc_size, od_size, .func (PySem.W.fnOf "size" "size" (defArgs s_size) (defBody s_size) (defScope s_size) .none kV_size dc_size pm_size an_size cd_size ct_size), sl_size⟩)
    (c_size : PySem.W.codeIn K cd_size "size" = true)
    (k_size : PySem.W.keepIn K (.ref a_size) = true)
    (aF__law_pot_of : PySem.W.nsIn K mainGlobals "_law_pot_of" = some (some (.ref a__law_pot_of)))
    (l__law_pot_of : K.lookup a__law_pot_of = some ⟨oc__law_pot_of, od__law_pot_of, .func (PySem.W.fnOf "_law_pot_of" "_law_pot_of" (defArgs s__law_pot_of) (defBody s__law_pot_of) (defScope s__law_pot_of) .none kV__law_pot_of dc__law_pot_of pm__law_pot_of an__law_pot_of cd__law_pot_of ct__law_pot_of), sl__law_pot_of⟩)
    (c__law_pot_of : PySem.W.codeIn K cd__law_pot_of "_law_pot_of" = true)
    (k__law_pot_of : PySem.W.keepIn K (.ref a__law_pot_of) = true)
    (aF__law_take : PySem.W.nsIn K mainGlobals "_law_take" = some (some (.ref a__law_take)))
    (l__law_take : K.lookup a__law_take = some ⟨oc__law_take, od__law_take, .func (PySem.W.fnOf "_law_take" "_law_take" (defArgs s__law_take) (defBody s__law_take) (defScope s__law_take) .none kV__law_take dc__law_take pm__law_take an__law_take cd__law_take ct__law_take), sl__law_take⟩)
    (c__law_take : PySem.W.codeIn K cd__law_take "_law_take" = true)
    (k__law_take : PySem.W.keepIn K (.ref a__law_take) = true)
    (aF__law_of : PySem.W.nsIn K mainGlobals "_law_of" = some (some (.ref a__law_of)))
    (l__law_of : K.lookup a__law_of = some ⟨oc__law_of, od__law_of, .func (PySem.W.fnOf "_law_of" "_law_of" (defArgs s__law_of) (defBody s__law_of) (defScope s__law_of) .none kV__law_of dc__law_of pm__law_of an__law_of cd__law_of ct__law_of), sl__law_of⟩)
    (c__law_of : PySem.W.codeIn K cd__law_of "_law_of" = true)
    (k__law_of : PySem.W.keepIn K (.ref a__law_of) = true)
    (aF__law_unlike : PySem.W.nsIn K mainGlobals "_law_unlike" = some (some (.ref a__law_unlike)))
    (l__law_unlike : K.lookup a__law_unlike = some ⟨oc__law_unlike, od__law_unlike, .func (PySem.W.fnOf "_law_unlike" "_law_unlike" (defArgs s__law_unlike) (defBody s__law_unlike) (defScope s__law_unlike) .none kV__law_unlike dc__law_unlike pm__law_unlike an__law_unlike cd__law_unlike ct__law_unlike), sl__law_unlike⟩)
    (c__law_unlike : PySem.W.codeIn K cd__law_unlike "_law_unlike" = true)
    (k__law_unlike : PySem.W.keepIn K (.ref a__law_unlike) = true)
    (aF__law_flat : PySem.W.nsIn K mainGlobals "_law_flat" = some (some (.ref a__law_flat)))
    (l__law_flat : K.lookup a__law_flat = some ⟨oc__law_flat, od__law_flat, .func (PySem.W.fnOf "_law_flat" "_law_flat" (defArgs s__law_flat) (defBody s__law_flat) (defScope s__law_flat) .none kV__law_flat dc__law_flat pm__law_flat an__law_flat cd__law_flat ct__law_flat), sl__law_flat⟩)
    (c__law_flat : PySem.W.codeIn K cd__law_flat "_law_flat" = true)
    (k__law_flat : PySem.W.keepIn K (.ref a__law_flat) = true)
    (aF__law_any : PySem.W.nsIn K mainGlobals "_law_any" = some (some (.ref a__law_any)))
    (l__law_any : K.lookup a__law_any = some ⟨oc__law_any, od__law_any, .func (PySem.W.fnOf "_law_any" "_law_any" (defArgs s__law_any) (defBody s__law_any) (defScope s__law_any) .none kV__law_any dc__law_any pm__law_any an__law_any cd__law_any ct__law_any), sl__law_any⟩)
    (c__law_any : PySem.W.codeIn K cd__law_any "_law_any" = true)
    (k__law_any : PySem.W.keepIn K (.ref a__law_any) = true)
    (aF__law_bent : PySem.W.nsIn K mainGlobals "_law_bent" = some (some (.ref a__law_bent)))
    (l__law_bent : K.lookup a__law_bent = some ⟨oc__law_bent, od__law_bent, .func (PySem.W.fnOf "_law_bent" "_law_bent" (defArgs s__law_bent) (defBody s__law_bent) (defScope s__law_bent) .none kV__law_bent dc__law_bent pm__law_bent an__law_bent cd__law_bent ct__law_bent), sl__law_bent⟩)
    (c__law_bent : PySem.W.codeIn K cd__law_bent "_law_bent" = true)
    (k__law_bent : PySem.W.keepIn K (.ref a__law_bent) = true)
    (aF__law_ink : PySem.W.nsIn K mainGlobals "_law_ink" = some (some (.ref a__law_ink)))
    (l__law_ink : K.lookup a__law_ink = some ⟨oc__law_ink, od__law_ink, .func (PySem.W.fnOf "_law_ink" "_law_ink" (defArgs s__law_ink) (defBody s__law_ink) (defScope s__law_ink) .none kV__law_ink dc__law_ink pm__law_ink an__law_ink cd__law_ink ct__law_ink), sl__law_ink⟩)
    (c__law_ink : PySem.W.codeIn K cd__law_ink "_law_ink" = true)
    (k__law_ink : PySem.W.keepIn K (.ref a__law_ink) = true)
    (aF__law_heard : PySem.W.nsIn K mainGlobals "_law_heard" = some (some (.ref a__law_heard)))
    (l__law_heard : K.lookup a__law_heard = some ⟨oc__law_heard, od__law_heard, .func (PySem.W.fnOf "_law_heard" "_law_heard" (defArgs s__law_heard) (defBody s__law_heard) (defScope s__law_heard) .none kV__law_heard dc__law_heard pm__law_heard an__law_heard cd__law_heard ct__law_heard), sl__law_heard⟩)
    (c__law_heard : PySem.W.codeIn K cd__law_heard "_law_heard" = true)
    (k__law_heard : PySem.W.keepIn K (.ref a__law_heard) = true)
    (aF__law_is_one : PySem.W.nsIn K mainGlobals "_law_is_one" = some (some (.ref a__law_is_one)))
    (l__law_is_one : K.lookup a__law_is_one = some ⟨oc__law_is_one, od__law_is_one, .func (PySem.W.fnOf "_law_is_one" "_law_is_one" (defArgs s__law_is_one) (defBody s__law_is_one) (defScope s__law_is_one) .none kV__law_is_one dc__law_is_one pm__law_is_one an__law_is_one cd__law_is_one ct__law_is_one), sl__law_is_one⟩)
    (c__law_is_one : PySem.W.codeIn K cd__law_is_one "_law_is_one" = true)
    (k__law_is_one : PySem.W.keepIn K (.ref a__law_is_one) = true)
    (aF__law_parts : PySem.W.nsIn K mainGlobals "_law_parts" = some (some (.ref a__law_parts)))
    (l__law_parts : K.lookup a__law_parts = some ⟨oc__law_parts, od__law_parts, .func (PySem.W.fnOf "_law_parts" "_law_parts" (defArgs s__law_parts) (defBody s__law_parts) (defScope s__law_parts) .none kV__law_parts dc__law_parts pm__law_parts an__law_parts cd__law_parts ct__law_parts), sl__law_parts⟩)
    (c__law_parts : PySem.W.codeIn K cd__law_parts "_law_parts" = true)
    (k__law_parts : PySem.W.keepIn K (.ref a__law_parts) = true)
    (aF__law_odd : PySem.W.nsIn K mainGlobals "_law_odd" = some (some (.ref a__law_odd)))
    (l__law_odd : K.lookup a__law_odd = some ⟨oc__law_odd, od__law_odd, .func (PySem.W.fnOf "_law_odd" "_law_odd" (defArgs s__law_odd) (defBody s__law_odd) (defScope s__law_odd) .none kV__law_odd dc__law_odd pm__law_odd an__law_odd cd__law_odd ct__law_odd), sl__law_odd⟩)
    (c__law_odd : PySem.W.codeIn K cd__law_odd "_law_odd" = true)
    (k__law_odd : PySem.W.keepIn K (.ref a__law_odd) = true)
    (aF__law_turned : PySem.W.nsIn K mainGlobals "_law_turned" = some (some (.ref a__law_turned)))
    (l__law_turned : K.lookup a__law_turned = some ⟨oc__law_turned, od__law_turned, .func (PySem.W.fnOf "_law_turned" "_law_turned" (defArgs s__law_turned) (defBody s__law_turned) (defScope s__law_turned) .none kV__law_turned dc__law_turned pm__law_turned an__law_turned cd__law_turned ct__law_turned), sl__law_turned⟩)
    (c__law_turned : PySem.W.codeIn K cd__law_turned "_law_turned" = true)
    (k__law_turned : PySem.W.keepIn K (.ref a__law_turned) = true)
    (aF__law_two_right : PySem.W.nsIn K mainGlobals "_law_two_right" = some (some (.ref a__law_two_right)))
    (l__law_two_right : K.lookup a__law_two_right = some ⟨oc__law_two_right, od__law_two_right, .func (PySem.W.fnOf "_law_two_right" "_law_two_right" (defArgs s__law_two_right) (defBody s__law_two_right) (defScope s__law_two_right) .none kV__law_two_right dc__law_two_right pm__law_two_right an__law_two_right cd__law_two_right ct__law_two_right), sl__law_two_right⟩)
    (c__law_two_right : PySem.W.codeIn K cd__law_two_right "_law_two_right" = true)
    (k__law_two_right : PySem.W.keepIn K (.ref a__law_two_right) = true)
    (aF__law_one_right : PySem.W.nsIn K mainGlobals "_law_one_right" = some (some (.ref a__law_one_right)))
    (l__law_one_right : K.lookup a__law_one_right = some ⟨oc__law_one_right, od__law_one_right, .func (PySem.W.fnOf "_law_one_right" "_law_one_right" (defArgs s__law_one_right) (defBody s__law_one_right) (defScope s__law_one_right) .none kV__law_one_right dc__law_one_right pm__law_one_right an__law_one_right cd__law_one_right ct__law_one_right), sl__law_one_right⟩)
    (c__law_one_right : PySem.W.codeIn K cd__law_one_right "_law_one_right" = true)
    (k__law_one_right : PySem.W.keepIn K (.ref a__law_one_right) = true)
    (aF_law : PySem.W.nsIn K mainGlobals "law" = some (some (.ref a_law)))
    (l_law : K.lookup a_law = some ⟨oc_law, od_law, .func (PySem.W.fnOf "law" "law" (defArgs s_law) (defBody s_law) (defScope s_law) .none kV_law dc_law pm_law an_law cd_law ct_law), sl_law⟩)
    (c_law : PySem.W.codeIn K cd_law "law" = true)
    (k_law : PySem.W.keepIn K (.ref a_law) = true) : Tx P K mg :=
  { D := C0,
    fI := fI,
    fdI := iFn ql .none kV dc pm an cda ct cc,
    ini := ⟨⟨ql, file, .none, kV, dc, pm, ct, oc, ccl, cl, an, od, cdd, cld, sl, ccs, csl, cda, cc, vs, tf, cdD, rfl, iL, iC, iO, iV, iF, iE, iK⟩, PySem.W.mg_none_of X G iS, iT, iP, iY⟩,
    b_ini := .all fun us hl => match us, hl with | [_, _], _ => rfl,
    C_TaglessError := C_TaglessError,
    e_TaglessError := errB_ok (List.all_eq_true.mp eC C_TaglessError (by simp)),
    m_TaglessError := PySem.W.mg_of X G aC_TaglessError,
    C_NoDocument := C_NoDocument,
    e_NoDocument := errB_ok (List.all_eq_true.mp eC C_NoDocument (by simp)),
    m_NoDocument := PySem.W.mg_of X G aC_NoDocument,
    t_MOST_LETTERS := t_MOST_LETTERS,
    m_MOST_LETTERS := PySem.W.mg_of X G k_MOST_LETTERS,
    n_ValueError := PySem.W.mg_none_of X G z_ValueError,
    n_abs := PySem.W.mg_none_of X G z_abs,
    n_all := PySem.W.mg_none_of X G z_all,
    n_bool := PySem.W.mg_none_of X G z_bool,
    n_dict := PySem.W.mg_none_of X G z_dict,
    n_int := PySem.W.mg_none_of X G z_int,
    n_isinstance := PySem.W.mg_none_of X G z_isinstance,
    n_len := PySem.W.mg_none_of X G z_len,
    n_list := PySem.W.mg_none_of X G z_list,
    n_max := PySem.W.mg_none_of X G z_max,
    n_min := PySem.W.mg_none_of X G z_min,
    n_range := PySem.W.mg_none_of X G z_range,
    n_repr := PySem.W.mg_none_of X G z_repr,
    n_sorted := PySem.W.mg_none_of X G z_sorted,
    n_str := PySem.W.mg_none_of X G z_str,
    n_sum := PySem.W.mg_none_of X G z_sum,
    n_tuple := PySem.W.mg_none_of X G z_tuple,
    n_zip := PySem.W.mg_none_of X G z_zip,
    a_is_name := a_is_name,
    fd_is_name := _,
    F_is_name := fun_mk (st := s_is_name) l_is_name c_is_name k_is_name,
    b_is_name := (fun_mk (st := s_is_name) l_is_name c_is_name k_is_name).binds fun _ _ _ _ _ _ us hl => match us, hl with | [_], _ => rfl,
    m_is_name := PySem.W.mg_of X G aF_is_name,
    a_is_document := a_is_document,
    fd_is_document := _,
    F_is_document := fun_mk (st := s_is_document) l_is_document c_is_document k_is_document,
    b_is_document := (fun_mk (st := s_is_document) l_is_document c_is_document k_is_document).binds fun _ _ _ _ _ _ us hl => match us, hl with | [_], _ => rfl,
    m_is_document := PySem.W.mg_of X G aF_is_document,
    a_check_document := a_check_document,
    fd_check_document := _,
    F_check_document := fun_mk (st := s_check_document) l_check_document c_check_document k_check_document,
    b_check_document := (fun_mk (st := s_check_document) l_check_document c_check_document k_check_document).binds fun _ _ _ _ _ _ us hl => match us, hl with | [_], _ => rfl,
    m_check_document := PySem.W.mg_of X G aF_check_document,
    a_are_same := a_are_same,
    fd_are_same := _,
    F_are_same := fun_mk (st := s_are_same) l_are_same c_are_same k_are_same,
    b_are_same := (fun_mk (st := s_are_same) l_are_same c_are_same k_are_same).binds fun _ _ _ _ _ _ us hl => match us, hl with | [_, _], _ => rfl,
    m_are_same := PySem.W.mg_of X G aF_are_same,
    a_same := a_same,
    fd_same := _,
    F_same := fun_mk (st := s_same) l_same c_same k_same,
    b_same := (fun_mk (st := s_same) l_same c_same k_same).binds fun _ _ _ _ _ _ us hl => match us, hl with | [_, _], _ => rfl,
    m_same := PySem.W.mg_of X G aF_same,
    a_parts_in := a_parts_in,
    fd_parts_in := _,
    F_parts_in := fun_mk (st := s_parts_in) l_parts_in c_parts_in k_parts_in,
    b_parts_in := (fun_mk (st := s_parts_in) l_parts_in c_parts_in k_parts_in).binds fun _ _ _ _ _ _ us hl => match us, hl with | [_], _ => rfl,
    m_parts_in := PySem.W.mg_of X G aF_parts_in,
    a_size := a_size,
    fd_size := _,
    F_size := fun_mk (st := s_size) l_size c_size k_size,
    b_size := (fun_mk (st := s_size) l_size c_size k_size).binds fun _ _ _ _ _ _ us hl => match us, hl with | [_], _ => rfl,
    m_size := PySem.W.mg_of X G aF_size,
    a__law_pot_of := a__law_pot_of,
    fd__law_pot_of := _,
    F__law_pot_of := fun_mk (st := s__law_pot_of) l__law_pot_of c__law_pot_of k__law_pot_of,
    b__law_pot_of := (fun_mk (st := s__law_pot_of) l__law_pot_of c__law_pot_of k__law_pot_of).binds fun _ _ _ _ _ _ us hl => match us, hl with | [_, _], _ => rfl,
    m__law_pot_of := PySem.W.mg_of X G aF__law_pot_of,
    a__law_take := a__law_take,
    fd__law_take := _,
    F__law_take := fun_mk (st := s__law_take) l__law_take c__law_take k__law_take,
    b__law_take := (fun_mk (st := s__law_take) l__law_take c__law_take k__law_take).binds fun _ _ _ _ _ _ us hl => match us, hl with | [_, _], _ => rfl,
    m__law_take := PySem.W.mg_of X G aF__law_take,
    a__law_of := a__law_of,
    fd__law_of := _,
    F__law_of := fun_mk (st := s__law_of) l__law_of c__law_of k__law_of,
    b__law_of := (fun_mk (st := s__law_of) l__law_of c__law_of k__law_of).binds fun _ _ _ _ _ _ us hl => match us, hl with | [_, _], _ => rfl,
    m__law_of := PySem.W.mg_of X G aF__law_of,
    a__law_unlike := a__law_unlike,
    fd__law_unlike := _,
    F__law_unlike := fun_mk (st := s__law_unlike) l__law_unlike c__law_unlike k__law_unlike,
    b__law_unlike := (fun_mk (st := s__law_unlike) l__law_unlike c__law_unlike k__law_unlike).binds fun _ _ _ _ _ _ us hl => match us, hl with | [_, _, _], _ => rfl,
    m__law_unlike := PySem.W.mg_of X G aF__law_unlike,
    a__law_flat := a__law_flat,
    fd__law_flat := _,
    F__law_flat := fun_mk (st := s__law_flat) l__law_flat c__law_flat k__law_flat,
    b__law_flat := (fun_mk (st := s__law_flat) l__law_flat c__law_flat k__law_flat).binds fun _ _ _ _ _ _ us hl => match us, hl with | [_], _ => rfl,
    m__law_flat := PySem.W.mg_of X G aF__law_flat,
    a__law_any := a__law_any,
    fd__law_any := _,
    F__law_any := fun_mk (st := s__law_any) l__law_any c__law_any k__law_any,
    b__law_any := (fun_mk (st := s__law_any) l__law_any c__law_any k__law_any).binds fun _ _ _ _ _ _ us hl => match us, hl with | [_, _], _ => rfl,
    m__law_any := PySem.W.mg_of X G aF__law_any,
    a__law_bent := a__law_bent,
    fd__law_bent := _,
    F__law_bent := fun_mk (st := s__law_bent) l__law_bent c__law_bent k__law_bent,
    b__law_bent := (fun_mk (st := s__law_bent) l__law_bent c__law_bent k__law_bent).binds fun _ _ _ _ _ _ us hl => match us, hl with | [_, _], _ => rfl,
    m__law_bent := PySem.W.mg_of X G aF__law_bent,
    a__law_ink := a__law_ink,
    fd__law_ink := _,
    F__law_ink := fun_mk (st := s__law_ink) l__law_ink c__law_ink k__law_ink,
    b__law_ink := (fun_mk (st := s__law_ink) l__law_ink c__law_ink k__law_ink).binds fun _ _ _ _ _ _ us hl => match us, hl with | [_], _ => rfl,
    m__law_ink := PySem.W.mg_of X G aF__law_ink,
    a__law_heard := a__law_heard,
    fd__law_heard := _,
    F__law_heard := fun_mk (st := s__law_heard) l__law_heard c__law_heard k__law_heard,
    b__law_heard := (fun_mk (st := s__law_heard) l__law_heard c__law_heard k__law_heard).binds fun _ _ _ _ _ _ us hl => match us, hl with | [_], _ => rfl,
    m__law_heard := PySem.W.mg_of X G aF__law_heard,
    a__law_is_one := a__law_is_one,
    fd__law_is_one := _,
    F__law_is_one := fun_mk (st := s__law_is_one) l__law_is_one c__law_is_one k__law_is_one,
    b__law_is_one := (fun_mk (st := s__law_is_one) l__law_is_one c__law_is_one k__law_is_one).binds fun _ _ _ _ _ _ us hl => match us, hl with | [_], _ => rfl,
    m__law_is_one := PySem.W.mg_of X G aF__law_is_one,
    a__law_parts := a__law_parts,
    fd__law_parts := _,
    F__law_parts := fun_mk (st := s__law_parts) l__law_parts c__law_parts k__law_parts,
    b__law_parts := (fun_mk (st := s__law_parts) l__law_parts c__law_parts k__law_parts).binds fun _ _ _ _ _ _ us hl => match us, hl with | [_], _ => rfl,
    m__law_parts := PySem.W.mg_of X G aF__law_parts,
    a__law_odd := a__law_odd,
    fd__law_odd := _,
    F__law_odd := fun_mk (st := s__law_odd) l__law_odd c__law_odd k__law_odd,
    b__law_odd := (fun_mk (st := s__law_odd) l__law_odd c__law_odd k__law_odd).binds fun _ _ _ _ _ _ us hl => match us, hl with | [_, _], _ => rfl,
    m__law_odd := PySem.W.mg_of X G aF__law_odd,
    a__law_turned := a__law_turned,
    fd__law_turned := _,
    F__law_turned := fun_mk (st := s__law_turned) l__law_turned c__law_turned k__law_turned,
    b__law_turned := (fun_mk (st := s__law_turned) l__law_turned c__law_turned k__law_turned).binds fun _ _ _ _ _ _ us hl => match us, hl with | [_], _ => rfl,
    m__law_turned := PySem.W.mg_of X G aF__law_turned,
    a__law_two_right := a__law_two_right,
    fd__law_two_right := _,
    F__law_two_right := fun_mk (st := s__law_two_right) l__law_two_right c__law_two_right k__law_two_right,
    b__law_two_right := (fun_mk (st := s__law_two_right) l__law_two_right c__law_two_right k__law_two_right).binds fun _ _ _ _ _ _ us hl => match us, hl with | [_, _], _ => rfl,
    m__law_two_right := PySem.W.mg_of X G aF__law_two_right,
    a__law_one_right := a__law_one_right,
    fd__law_one_right := _,
    F__law_one_right := fun_mk (st := s__law_one_right) l__law_one_right c__law_one_right k__law_one_right,
    b__law_one_right := (fun_mk (st := s__law_one_right) l__law_one_right c__law_one_right k__law_one_right).binds fun _ _ _ _ _ _ us hl => match us, hl with | [_, _], _ => rfl,
    m__law_one_right := PySem.W.mg_of X G aF__law_one_right,
    a_law := a_law,
    fd_law := _,
    F_law := fun_mk (st := s_law) l_law c_law k_law,
    b_law := (fun_mk (st := s_law) l_law c_law k_law).binds fun _ _ _ _ _ _ us hl => match us, hl with | [_], _ => rfl,
    m_law := PySem.W.mg_of X G aF_law }
theorem fin {l : PySem.W.OpenLaw} {w : World} {K : PySem.W.Frag} {mg : Str → Option Value} {fa : Addr} {h : Heap} (hfa : mg "law" = some (.ref fa)) (KX : K.In h) {P1 P2 c1 c2 : Addr} (tabs : ∀ p ∈ [P1, P2], h.get? p = some (PySem.W.tabObj #[])) (T : Tx l.prog K mg) (hb : ∀ (s : Shared) (v : Value), BindsTo s T.fd_law ⟨[v], []⟩ [("_law_script", v)])
    (hP : decide (P1 = P2) = false) (n1 : K.lookup P1 = none) (n2 : K.lookup P2 = none) (FC : FunC K "_law_one_right" "_law_one_right" s__law_one_right T.a__law_one_right T.fd__law_one_right c1)
    (FC2 : FunC K "_law_two_right" "_law_two_right" s__law_two_right T.a__law_two_right T.fd__law_two_right c2) (e1 : PySem.W.codeHdIn K c1 P1 = true) (e2 : PySem.W.codeHdIn K c2 P2 = true)
    (xm : PySem.W.exmOne K (.ref T.C_NoDocument) (.ref T.C_TaglessError) = some true) (nd : PySem.W.kitOne K (.ref T.C_NoDocument) (.ref T.C_NoDocument) = some true) (ve : PySem.W.kitOne K (.ref T.C_NoDocument) (.type "ValueError") = some true) :
    AtGT l w K CX0 16 63 "_law_script" mg fa h := by
  have e := hfa.symm.trans T.m_law
  injection e with e
  injection e with e
  subst e
  have hne : P1 ≠ P2 := of_decide_eq_false hP
  refine ⟨T.fd_law, [(c1, P1), (c2, P2)], spLaw K P1 P2, ?_, ?_, ?_, hb, ?_, ?_⟩
  · intro p hp
    simp only [List.mem_cons, List.not_mem_nil, or_false] at hp
    rcases hp with rfl | rfl
    · exact tabs _ (by simp)
    · exact tabs _ (by simp)
  · intro p hp
    simp only [List.mem_cons, List.not_mem_nil, or_false] at hp
    rcases hp with rfl | rfl
    · exact n1
    · exact n2
  · intro p hp
    simp only [List.mem_cons, List.not_mem_nil, or_false] at hp
    rcases hp with rfl | rfl
    · exact PySem.W.codeHd_of_K KX e1
    · exact PySem.W.codeHd_of_K KX e2
  · intro H a ns hl ht hs
    refine ⟨a, ns, rfl, hs, hl, fun p hp => ?_, fun _ => rfl⟩
    simp only [tabsL, List.mem_cons, List.not_mem_nil, or_false] at hp
    rcases hp with rfl | rfl
    · exact TabS.nil (ht (c1, P1) (by simp))
    · exact TabS.nil (ht (c2, P2) (by simp))
  · intro base _ _ tb
    exact ok_law T ⟨xm, nd, ve⟩ hne (tb (c1, P1) (by simp)) (tb (c2, P2) (by simp)) FC FC2
end K00
open PySem PySem.W PyProof.Rows
set_option maxHeartbeats 0 in
theorem PySem.Challenge.cw_tagless_k00_documents_told_holds : PySem.Challenge.rw_tagless_k00_documents_told.Holds :=
  head (by
  k_fill
  refine Tg.walkGT (l := PySem.Challenge.rw_tagless_k00_documents_told) (n := 63) (k := 16) (x := "_law_script") (CX := fun _ => L2.CX0) rfl (by decide) rfl ⟨rfl, by decide, by decide⟩ (fun w h Y => km_in_of Y) ?F fun _ _ _ _ _ z => z
  case F =>
    intro w mg fa h Y KX G hmg
    refine' K00.fin (P1 := 173) (P2 := 168) hmg KX (km_tabs_of Y) (K00.tx_mk KX G ?aD ?iD ?iL ?iC ?iO ?iV ?iF ?iE ?iK ?iS ?iT ?iP ?iY ?aC_TaglessError ?aC_NoDocument ?eC ?k_MOST_LETTERS ?z_ValueError ?z_abs ?z_all ?z_bool ?z_dict ?z_int ?z_isinstance ?z_len ?z_list ?z_max ?z_min ?z_range ?z_repr ?z_sorted ?z_str ?z_sum ?z_tuple ?z_zip ?aF_is_name ?l_is_name ?c_is_name ?k_is_name ?aF_is_document ?l_is_document ?c_is_document ?k_is_document ?aF_check_document ?l_check_document ?c_check_document ?k_check_document ?aF_are_same ?l_are_same ?c_are_same ?k_are_same ?aF_same ?l_same ?c_same ?k_same ?aF_parts_in ?l_parts_in ?c_parts_in ?k_parts_in ?aF_size ?l_size ?c_size ?k_size ?aF__law_pot_of ?l__law_pot_of ?c__law_pot_of ?k__law_pot_of ?aF__law_take ?l__law_take ?c__law_take ?k__law_take ?aF__law_of ?l__law_of ?c__law_of ?k__law_of ?aF__law_unlike ?l__law_unlike ?c__law_unlike ?k__law_unlike ?aF__law_flat ?l__law_flat ?c__law_flat ?k__law_flat ?aF__law_any ?l__law_any ?c__law_any ?k__law_any ?aF__law_bent ?l__law_bent ?c__law_bent ?k__law_bent ?aF__law_ink ?l__law_ink ?c__law_ink ?k__law_ink ?aF__law_heard ?l__law_heard ?c__law_heard ?k__law_heard ?aF__law_is_one ?l__law_is_one ?c__law_is_one ?k__law_is_one ?aF__law_parts ?l__law_parts ?c__law_parts ?k__law_parts ?aF__law_odd ?l__law_odd ?c__law_odd ?k__law_odd ?aF__law_turned ?l__law_turned ?c__law_turned ?k__law_turned ?aF__law_two_right ?l__law_two_right ?c__law_two_right ?k__law_two_right ?aF__law_one_right ?l__law_one_right ?c__law_one_right ?k__law_one_right ?aF_law ?l_law ?c_law ?k_law) ?hb ?hP ?hn1 ?hn2 ⟨⟨_, _, _, _, _, _, _, _, rfl, ?l__law_one_right, ?c__law_one_right⟩⟩ ⟨⟨_, _, _, _, _, _, _, _, rfl, ?l__law_two_right, ?c__law_two_right⟩⟩ ?he1 ?he2 ?hxm ?hnd ?hve
    (case aD => k_is)
    (case iD => k_is)
    (case iL => k_is)
    (case iC => k_is)
    (case iO => k_is)
    (case iV => exact rfl)
    (case iF => (first | exact rfl | decide +kernel))
    (case iE => k_is)
    (case iK => k_is)
    (case iS => k_is)
    (case iT => k_is)
    (case iP => decide +kernel)
    (case iY => k_is)
    (case aC_TaglessError => k_is)
    (case aC_NoDocument => k_is)
    (case eC => kernel_rfl)
    (case k_MOST_LETTERS => k_is)
    (case z_ValueError => k_is)
    (case z_abs => k_is)
    (case z_all => k_is)
    (case z_bool => k_is)
    (case z_dict => k_is)
    (case z_int => k_is)
    (case z_isinstance => k_is)
    (case z_len => k_is)
    (case z_list => k_is)
    (case z_max => k_is)
    (case z_min => k_is)
    (case z_range => k_is)
    (case z_repr => k_is)
    (case z_sorted => k_is)
    (case z_str => k_is)
    (case z_sum => k_is)
    (case z_tuple => k_is)
    (case z_zip => k_is)
    (case aF_is_name => k_is)
    (case l_is_name => k_is)
    (case c_is_name => k_is)
    (case k_is_name => k_is)
    (case aF_is_document => k_is)
    (case l_is_document => k_is)
    (case c_is_document => k_is)
    (case k_is_document => k_is)
    (case aF_check_document => k_is)
    (case l_check_document => k_is)
    (case c_check_document => k_is)
    (case k_check_document => k_is)
    (case aF_are_same => k_is)
    (case l_are_same => k_is)
    (case c_are_same => k_is)
    (case k_are_same => k_is)
    (case aF_same => k_is)
    (case l_same => k_is)
    (case c_same => k_is)
    (case k_same => k_is)
    (case aF_parts_in => k_is)
    (case l_parts_in => k_is)
    (case c_parts_in => k_is)
    (case k_parts_in => k_is)
    (case aF_size => k_is)
    (case l_size => k_is)
    (case c_size => k_is)
    (case k_size => k_is)
    (case aF__law_pot_of => k_is)
    (case l__law_pot_of => k_is)
    (case c__law_pot_of => k_is)
    (case k__law_pot_of => k_is)
    (case aF__law_take => k_is)
    (case l__law_take => k_is)
    (case c__law_take => k_is)
    (case k__law_take => k_is)
    (case aF__law_of => k_is)
    (case l__law_of => k_is)
    (case c__law_of => k_is)
    (case k__law_of => k_is)
    (case aF__law_unlike => k_is)
    (case l__law_unlike => k_is)
    (case c__law_unlike => k_is)
    (case k__law_unlike => k_is)
    (case aF__law_flat => k_is)
    (case l__law_flat => k_is)
    (case c__law_flat => k_is)
    (case k__law_flat => k_is)
    (case aF__law_any => k_is)
    (case l__law_any => k_is)
    (case c__law_any => k_is)
    (case k__law_any => k_is)
    (case aF__law_bent => k_is)
    (case l__law_bent => k_is)
    (case c__law_bent => k_is)
    (case k__law_bent => k_is)
    (case aF__law_ink => k_is)
    (case l__law_ink => k_is)
    (case c__law_ink => k_is)
    (case k__law_ink => k_is)
    (case aF__law_heard => k_is)
    (case l__law_heard => k_is)
    (case c__law_heard => k_is)
    (case k__law_heard => k_is)
    (case aF__law_is_one => k_is)
    (case l__law_is_one => k_is)
    (case c__law_is_one => k_is)
    (case k__law_is_one => k_is)
    (case aF__law_parts => k_is)
    (case l__law_parts => k_is)
    (case c__law_parts => k_is)
    (case k__law_parts => k_is)
    (case aF__law_odd => k_is)
    (case l__law_odd => k_is)
    (case c__law_odd => k_is)
    (case k__law_odd => k_is)
    (case aF__law_turned => k_is)
    (case l__law_turned => k_is)
    (case c__law_turned => k_is)
    (case k__law_turned => k_is)
    (case aF__law_two_right => k_is)
    (case l__law_two_right => k_is)
    (case c__law_two_right => k_is)
    (case k__law_two_right => k_is)
    (case aF__law_one_right => k_is)
    (case l__law_one_right => k_is)
    (case c__law_one_right => k_is)
    (case k__law_one_right => k_is)
    (case aF_law => k_is)
    (case l_law => k_is)
    (case c_law => k_is)
    (case k_law => k_is)
    (case hb => exact fun s v => .of_eq rfl)
    (case hP => decide)
    (case hn1 => kernel_rfl)
    (case hn2 => kernel_rfl)
    (case he1 => kernel_rfl)
    (case he2 => kernel_rfl)
    (case hxm => kernel_rfl)
    (case hnd => kernel_rfl)
    (case hve => kernel_rfl))
