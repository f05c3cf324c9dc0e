import PyProof.Rows.All
import Wide.All
import OpenK.AllK
import Wide.FinOn
import HandS.ForMost
import HandS.ForExc
import HandS.IsInst
import HandS.ExcInit
import HandS.ExcField
import HandS.ExcIs
import KE.KExcSuper
import HandS.Walk
import HandS.Iter
import KE.KDictCopyH
import HandS.Lambda
import HandS.EndTab
import HandS.DictComp
import HandS.ListItems
import HandS.Style
import HandS.SetFor
import HandS.Steps
import HandS.StrMore
import HandS.Text
import HandS.DeepEq
import HandS.More
import HandS.Small
import HandS.Conv
import PyProof.ListStr
import HandS.ReplaceLit
import HandS.Wide
import HandS.ReplaceList
import PySem.Challenge.RW_tagless_k88_texts_of_any_value
section
set_option Elab.async false
set_option linter.all false
set_option maxRecDepth 100000
set_option maxHeartbeats 4000000
/-! Tg, part A: promises of defs where no repr runs around (so that repr can be asked), and the law's end over them. -/
namespace Tg
open PySem PySem.Spec PyProof.Rows L2

structure FnG (P : Program) (w : World) (K : PySem.W.Frag) (mg : Str → Option Value) (base : Heap) (CX : CXT) (k : Nat) (f : Addr) (fd : FuncData) (ps : List Str) (sp : Sp) : Prop where
  len : ∀ vs H Q E, sp vs H Q E → vs.length = ps.length
  go : ∀ (A : Around) (fr : List Env) (s : Shared) (H : Hp) (ag : Args) (us : List Value) (vs : List V) (Q : VK) (E : XK),
    A.guards = some [] → Room k A → Env0 P w K mg base A fr s H → BindsTo s fd ag (ps.zip us) → Vals vs us → sp vs H Q E →
      codeAny (model P w) A (.call (.ref f) ag) (CR CX fr P w H s Q E) s

section
variable {P : Program} {w : World} {K : PySem.W.Frag} {mg : Str → Option Value} {base : Heap} {CX : CXT} {k : Nat} {f : Addr} {fd : FuncData} {ps : List Str} {sp : Sp}

theorem FnG.of (F : FnOk P w K mg base CX k f fd ps sp) : FnG P w K mg base CX k f fd ps sp :=
  ⟨F.len, fun A fr s H ag us vs Q E _ => F.run A fr s H ag us vs Q E⟩

theorem FnG.mono {j : Nat} (F : FnG P w K mg base CX j f fd ps sp) (h : j ≤ k) : FnG P w K mg base CX k f fd ps sp :=
  ⟨F.len, fun A fr s H ag us vs Q E g r => F.go A fr s H ag us vs Q E g (r.mono h)⟩

theorem guards_deeper (A : Around) (env : Env) : (A.deeper env).guards = A.guards := rfl
end

section
variable {P : Program} {w : World} {K : PySem.W.Frag} {mg : Str → Option Value} {base : Heap}

/-- a def by its body -/
theorem fnG_of {CX : CXT} {k : Nat} {f : Addr} {nm ql : Str} {pa : Arguments} {bd : List Stmt} {sc : Scope} {dV kV dc pm cd ct oc : Value} {an od : Option Addr} {sl : Array (Option Value)} {N ps : List Str} {sp : Sp}
    (lk : K.lookup f = some ⟨oc, od, .func (PySem.W.fnOf nm ql pa bd sc dV kV dc pm an cd ct), sl⟩) (hcd : PySem.W.codeIn K cd ql = true) (S : FnScope N ps sc) (len : ∀ vs H Q E, sp vs H Q E → vs.length = ps.length)
    (hb : ∀ (A : Around) (fr : List Env) (s : Shared) (H : Hp) (vs : List V) (Q : VK) (E : XK), A.guards = some [] → Room k (A.deeper (envOfC ql sc s.heap.objs.size f cd)) → sp vs H Q E →
      ∃ t, PSs (cxOf CX P w K mg base N ql sc f cd A fr s H E) bd t ∧ t { nx := fun _ H' => Q .non H', rt := Q } (start N vs) H) :
    FnG P w K mg base CX (k + 1) f (PySem.W.fnOf nm ql pa bd sc dV kV dc pm an cd ct) ps sp := by
  constructor
  · exact len
  intro A fr s H ag us vs Q E hgd room en bnd rel hsp
  have hlen : vs.length = ps.length := len _ _ _ _ hsp
  have stays : ∀ b o, base.get? b = some o → s.heap.get? b = some o := fun b o e => (en.bs b o e).1
  have inK : K.In s.heap := en.mod.kin.keeps stays
  have noLim : s.heap.NoLimit := en.mod.nolimit.keeps stays
  have kinds : ∀ y ∈ ps.zip us, sc.names.lookup y.1 = some .local ∨ (sc.names.lookup y.1 = some .cell ∧ ((cellsFrom (s.heap.objs.size + 1) sc.names []).lookup y.1).isSome = true) := by
    intro y hy
    have hm : y.1 ∈ ps := (List.of_mem_zip (show (y.1, y.2) ∈ ps.zip us from hy)).1
    cases S.par y.1 hm with
    | inl q => exact .inl q
    | inr q => exact .inr ⟨q, PySem.W.cellsFrom_some _ _ _ (.inl q)⟩
  apply codeAny_call_function room.depth (inK _ _ lk) rfl S.co S.gen rfl (PySem.W.codeRec_of inK hcd)
  apply bnd
  apply wpAny_newFunctionEnv_cells S.kind kinds
  intro env he s1 x
  subst he
  constructor
  · exact noLim.keeps x.toInCall.keep
  apply codeAny_func
  obtain ⟨t, ht, hq⟩ := hb A fr s H vs Q E hgd (room.deeper _) hsp
  have inv : Inv (cxOf CX P w K mg base N ql sc f cd A fr s H E) [] (start N vs) H s1 := inv_start S room.hd en hlen rel x
  have ran := ht.run [] s1 (start N vs) H _ inv hq
  apply wpAny_mono ran
  · intro fl s' hs
    have ends : ∀ {σ' : L2.St} {H' : Hp} {v : V} {u : Value}, Inv (cxOf CX P w K mg base N ql sc f cd A fr s H E) [] σ' H' s' → RelV v u → Q v H' → CE fr P w H s Q u s' :=
      fun {_ H' v _} J rv q => ⟨v, H', J.os, J.bare, J.base, J.hok, rv, q⟩
    match fl, hs with
    | .ret u, ⟨v, σ', H', J, rv, q⟩ => exact ends J rv q
    | .next, ⟨σ', H', J, q⟩ => exact ends (v := V.non) (u := Value.none) J rfl q
    | .brk, ⟨_, _, _, q⟩ => exact q.elim
    | .cont, ⟨_, _, _, q⟩ => exact q.elim
  · exact fun e s' hs => hs

/-- .. of the text's own def, from which nothing is raised -/
theorem funG {x ql : Str} {st : Stmt} {f : Addr} {fd : FuncData} {N ps : List Str} {k : Nat} {sp : Sp} (F : Fun K x ql st f fd) (S : FnScope N ps (defScope st)) (len : ∀ vs H Q E, sp vs H Q E → vs.length = ps.length)
    (hb : ∀ (cd : Value) (A : Around) (fr : List Env) (s : Shared) (H : Hp) (vs : List V) (Q : VK) (E : XK), A.guards = some [] → Room k (A.deeper (envOfC ql (defScope st) s.heap.objs.size f cd)) → sp vs H Q E →
      ∃ t, PSs (cxOf CX0 P w K mg base N ql (defScope st) f cd A fr s H E).nox (defBody st) t ∧ t { nx := fun _ H' => Q .non H', rt := Q } (start N vs) H) : FnG P w K mg base CX0 (k + 1) f fd ps sp := by
  obtain ⟨_, _, _, _, _, _, cd, _, _, rfl, lk, hc⟩ := F.ex
  exact fnG_of lk hc S len fun A fr s H vs Q E hg hr hsp => by
    obtain ⟨t, h, q⟩ := hb cd A fr s H vs Q E hg hr hsp
    exact ⟨t, h.nox, q⟩
end

section
variable {X : Cx} {CX : CXT} {k : Nat} {f : Addr} {fd : FuncData} {ps : List Str} {sp : Sp} {dvs : List V} {ds : List Value} {E : XK} {x : Str} {p pos : Pos} {e : Expr} {es : List Expr} {t : TA}
/-- f(e, ..), such a def -/
theorem pe_callG (F : FnG X.prog X.w X.K X.mg X.base CX k f fd ps sp) (hgd : X.A.guards = some []) (hr : Room k X.A) (hg : Gl X x) (hm : X.mg x = some (.ref f)) (hk : PySem.W.keepIn X.K (.ref f) = true) (hb : Binds X.K fd ps ds) (hd : Vals dvs ds)
    (hx : Passes CX X E) (ha : PA X (e :: es) t) (hdb : (x == ("__debug__" : Str)) = false := by decide)
    (he : starEach (e :: es) X.env = (false, eval e X.env) :: starEach es X.env := by rfl) (hpl : (backTo pos (starEach es X.env)).any (·.1) = false := by rfl) :
    PE X (.Call (.Name x p) (e :: es) [] pos) (tCall sp dvs E t) := by
  constructor
  intro pins s σ H Q I h
  apply wpAny_Call_Name_kw
  apply ld_glob I hg hm _ hdb
  refine PySem.W.callWith_K (h₀ := X.base) I.ok.mod.kin hk (thn (ha.run pos pins s σ H _ I h) ?_) he hpl
  rintro us s1 ⟨vs, H1, I1, rel, q⟩
  refine ⟨I1.kIn, wpAny_call ?_⟩
  have rel2 : Vals (vs ++ dvs) (us ++ ds) := rel.append hd
  have hl : (us ++ ds).length = ps.length := (rel2.length).symm.trans (F.len _ _ _ _ q)
  have ran := F.go X.A X.stack s1 H1 ⟨us, []⟩ (us ++ ds) (vs ++ dvs) Q E hgd hr I1.env0 (hb s1 us I1.kIn hl) rel2 q
  refine codeAny_mono ran ?_
  intro r s' hq
  match r, hq with
  | .error er, hq => exact hx pins σ H1 s1 er s' I1 hq
  | .ok (.ret u), hq => exact I1.after hq
  | .ok .next, hq => exact False.elim hq
  | .ok .brk, hq => exact False.elim hq
  | .ok .cont, hq => exact False.elim hq
end

/-- the law's def over the heap behind the top -/
theorem lawG {P : Program} {w : World} {K : PySem.W.Frag} {mg mb : Str → Option Value} {CX : CXT} {k : Nat} {fa a : Addr} {fd : FuncData} {x : Str} {sp : Sp} {s₁ : Shared} {us : List Value} {ns : List Int}
    (inK : K.In s₁.heap) (gns : s₁.heap.Ns mainGlobals mg) (bns : s₁.heap.Ns builtinsNs mb) (bbt : ∀ x : Str, x ≠ "__name__" → mb x = bootBuiltins x) (lim : s₁.heap.NoLimit) (gens : s₁.gens = #[])
    (ha : s₁.heap.get? a = some { cls := .type "list", data := .seq us.toArray }) (hi : IntsAre us ns) (hl : ns.length ≤ sizeLine) (room : Room k callerA)
    (F : ∀ base : Heap, K.In base → base.Ns mainGlobals mg → FnG P w K mg base CX k fa fd [x] sp) (bnd : ∀ (s : Shared) (u : Value), BindsTo s fd ⟨[u], []⟩ [(x, u)])
    (hsp : ∀ H : Hp, Only H → SqL K H a (ns.map V.int) → sp [.ref a] H (fun v _ => v = .bl true) fun _ _ _ => False)
    (noX : ∀ H e s', CX [] H s₁ (fun _ _ _ => False) e s' → False) :
    codeAny (model P w) callerA (.call (.ref fa) ⟨[.ref a], []⟩) (fun r s' => r = .ok (.ret (.bool true)) ∧ OldK s₁.heap s'.heap ∧ s'.os = s₁.os ∧ AllBare s'.gens) s₁ := by
  have relI : Vals (ns.map V.int) us := vals_ints hi
  have lenI := hi.length
  suffices main : ∀ H : Hp, Only H → SqL K H a (ns.map V.int) → HOk P w H s₁.heap → (∀ b u, H b = some u → b = a) → (∀ u, H a = some u → K.lookup a = none) →
      codeAny (model P w) callerA (.call (.ref fa) ⟨[.ref a], []⟩) (fun r s' => r = .ok (.ret (.bool true)) ∧ OldK s₁.heap s'.heap ∧ s'.os = s₁.os ∧ AllBare s'.gens) s₁ by
    cases known : K.lookup a with
    | none =>
      let o : Obj := { cls := .type "list", data := .seq us.toArray }
      let H : Hp := fun b => if b = a then some (.frz o (.lst (ns.map V.int))) else none
      have Ha : H a = some (.frz o (.lst (ns.map V.int))) := if_pos rfl
      have Hn : ∀ b, b ≠ a → H b = none := fun b hb => if_neg hb
      apply main H
      · intro b
        by_cases hb : b = a
        · subst hb; exact .inr ⟨_, _, Ha⟩
        · exact .inl (Hn b hb)
      · exact .inl (.inr ⟨o, Ha⟩)
      · intro b u z
        by_cases hb : b = a
        · subst hb
          rw [Ha] at z
          cases z
          exact ⟨ha, by rw [List.length_map]; exact hl, us, _, relI, ha⟩
        · rw [Hn b hb] at z
          cases z
      · intro b u z
        by_cases hb : b = a
        · exact hb
        · rw [Hn b hb] at z
          cases z
      · intro _ _
        exact known
    | some o =>
      have e := inK a o known
      rw [ha] at e
      cases e
      apply main fun _ => none
      · exact fun _ => .inl rfl
      · exact .inr ⟨_, us.toArray, _, known, rfl, rfl, rfl, by rw [List.size_toArray, lenI]; exact hl, by simpa using relI⟩
      · intro b u z; exact nomatch z
      · intro b u z; exact nomatch z
      · intro u z; exact nomatch z
  intro H only sq hok atA noK
  have kept : ∀ {b : Addr} {o : Obj}, s₁.heap.get? b = some o → H b = none → (hidT s₁.heap H).get? b = some o := fun e n => hidT_get e n
  have dictFree : ∀ {b : Addr} {o : Obj} {es : Array DictEntry} {ep : Nat}, s₁.heap.get? b = some o → o.data = .dict es ep → H b = none := by
    intro b o es ep e d
    cases q : H b with
    | none => rfl
    | some u =>
      have hb := atA b u q
      subst hb
      rw [ha] at e
      cases e
      exact nomatch (show Data.seq us.toArray _ = Data.dict es ep from d)
  have nsOf : ∀ {b : Addr} {m : Str → Option Value}, s₁.heap.Ns b m → (hidT s₁.heap H).Ns b m := by
    rintro b m ⟨o, es, ep, e, d, r⟩
    exact ⟨o, es, ep, kept e (dictFree e d), d, r⟩
  have inB : K.In (hidT s₁.heap H) := by
    intro b o e
    apply kept (inK b o e)
    cases q : H b with
    | none => rfl
    | some u =>
      have hb := atA b u q
      subst hb
      rw [noK u q] at e
      cases e
  obtain ⟨mc, l1, l2⟩ := lim
  have md : Mod K mg (hidT s₁.heap H) := ⟨inB, nsOf gns, ⟨mb, nsOf bns, bbt⟩, ⟨mc, nsOf l1, l2⟩⟩
  have none0 : ∀ b : Addr, b ∉ ([] : List Addr) := fun b => List.not_mem_nil
  have en : Env0 P w K mg (hidT s₁.heap H) callerA [] s₁ H :=
    ⟨rfl, md, fun b o e => of_hidT e, Nat.le_of_eq (hidT_size _ _), trivial, fun b hb => absurd hb (none0 b), hok, .of_eq gens⟩
  have ran := (F _ inB (nsOf gns)).go callerA [] s₁ H ⟨[.ref a], []⟩ [.ref a] [.ref a] _ _ rfl room en (bnd s₁ (.ref a)) (.cons rfl .nil) (hsp H only sq)
  refine codeAny_mono ran ?_
  intro r s' h
  match r, h with
  | .error er, h => exact (noX H er s' h).elim
  | .ok .next, h => exact False.elim h
  | .ok .brk, h => exact False.elim h
  | .ok .cont, h => exact False.elim h
  | .ok (.ret u), ⟨v, H', hos, bare, un, hok', rv, q⟩ =>
    have q' : v = .bl true := q
    subst q'
    have ru : u = Value.bool true := rv
    subst ru
    refine ⟨rfl, OldK.of_keep fun b o e => ?_, hos, bare⟩
    rcases only b with z | ⟨ob, xs, z⟩
    · exact un.keep b o e z (none0 b) (none0 b)
    · obtain ⟨e1, _⟩ := hok b _ z
      obtain ⟨e2, _⟩ := hok' b _ (un.frzs b ob _ z)
      exact e2.trans (e1.symm.trans e)

/-- the goal that k_head leaves -/
theorem walkG {l : PySem.W.OpenLaw} {n k : Nat} {q : Program} {loose : List Str} {XP : (Str → Option Value) → Heap → Prop} {YP : World → Heap → Prop} {d : DefRec} {K : Params → PySem.W.Frag} {CX : World → CXT} {sp : World → Sp} {x : Str}
    (hn : l.most = some n) (hz : n ≤ sizeLine) (hdf : d.params.defaults = []) (room : Room k callerA) (hY : ∀ (w : World) (h : Heap), YP w h → (K w.params).In h)
    (F : ∀ (w : World) (mg : Str → Option Value) (fa : Addr) (h : Heap), (K w.params).In h → h.Ns mainGlobals mg → mg d.name = some (.ref fa) →
      ∃ fd : FuncData, (∀ (s : Shared) (u : Value), BindsTo s fd ⟨[u], []⟩ [(x, u)]) ∧ ∀ base : Heap, (K w.params).In base → base.Ns mainGlobals mg → FnG l.prog w (K w.params) mg base (CX w) k fa fd [x] (sp w))
    (hsp : ∀ (w : World) (H : Hp) (a : Addr) (ns : List Int), ns.length ≤ n → Only H → SqL (K w.params) H a (ns.map V.int) → sp w [.ref a] H (fun v _ => v = .bl true) fun _ _ _ => False)
    (noX : ∀ (w : World) (H : Hp) (s : Shared) (e : Value) (s' : Shared), CX w [] H s (fun _ _ _ => False) e s' → False) :
    PySem.W.WalkO q loose XP YP l.row.toRowW d [] (fun f vs => PySem.call f vs) := by
  apply Att.attach_call hn hdf
  intro w s₀ s₁ mg mb fa o pm cd doc a vs ns G Y ho hd hcd hmg hobj hints hlen hg
  have inK := hY w _ Y
  obtain ⟨fd, bnd, hF⟩ := F w mg fa _ inK G.T.g hmg
  exact lawG inK G.T.g G.T.b G.T.builtins G.T.nolimit hg hobj hints (Nat.le_trans hlen hz) room hF bnd (fun H only sq => hsp w H a ns hlen only sq) fun H e s' => noX w H s₁ e s'
end Tg
end
section
set_option Elab.async false
set_option linter.all false
set_option maxRecDepth 100000
set_option maxHeartbeats 4000000
/-! Tg, part B: data that stands still (Rp), and repr of it. -/
namespace Tg
open PySem PySem.Spec PyProof.Rows L2

def kD : Key → PyData
  | .inl i => .int i
  | .inr x => .str x

/-- the hash of None -/
def hNone : Int := reduceHash 0xFCA86420
/-- a dict of None and 1 -/
def NonO (o : Obj) : Prop := o.ExactDict ∧ ∃ (ep : Nat) (t : Tok), o.data = .dict #[⟨hNone, .none, .int 1 t⟩] ep
/-- the object at a is o -/
def NDh (a : Addr) (o : Obj) : HO := .ext fun h => h.get? a = some o
mutual
/-- the value v is the data d, in lists and dicts that are locked for good -/
def Rp (H : Hp) : PyData → V → Prop
  | .none, v => v = .non
  | .bool b, v => v = .bl b
  | .int i, v => v = .int i
  | .str x, v => v = .str x
  | .list ds, v => ∃ a o xs, v = .ref a ∧ H a = some (.frz o (.lst xs)) ∧ RpL H ds xs
  | .tuple ds, v => ∃ a xs, v = .ref a ∧ H a = some (.tup xs) ∧ RpL H ds xs
  | .dict kds, v => (∃ a o kvs, v = .ref a ∧ H a = some (.frz o (.dK kvs)) ∧ RpD H kds kvs) ∨ (kds = [(.none, .int 1)] ∧ ∃ a o, v = .ref a ∧ H a = some (.frz o (NDh a o)) ∧ NonO o ∧ (a == sysModules) = false)
def RpL (H : Hp) : List PyData → List V → Prop
  | [], xs => xs = []
  | d :: ds, xs => ∃ x r, xs = x :: r ∧ Rp H d x ∧ RpL H ds r
def RpD (H : Hp) : List (PyData × PyData) → List (Key × V) → Prop
  | [], kvs => kvs = []
  | (k, d) :: kds, kvs => ∃ ky v r, kvs = (ky, v) :: r ∧ k = kD ky ∧ Rp H d v ∧ RpD H kds r
end

/-- what is locked, and tuples, stand as they stood -/
structure Kp (H H' : Hp) : Prop where
  fz : ∀ b o u, H b = some (.frz o u) → H' b = some (.frz o u)
  tu : ∀ b xs, H b = some (.tup xs) → H' b = some (.tup xs)
theorem Kp.refl (H : Hp) : Kp H H := ⟨fun _ _ _ e => e, fun _ _ e => e⟩
theorem Kp.trans {H H1 H2 : Hp} (a : Kp H H1) (b : Kp H1 H2) : Kp H H2 := ⟨fun c o u e => b.fz c o u (a.fz c o u e), fun c xs e => b.tu c xs (a.tu c xs e)⟩
theorem Kp.same {H H' : Hp} (s : Same H H') : Kp H H' := ⟨fun b o u e => s b _ e, fun b xs e => s b _ e⟩
theorem Kp.new {H : Hp} {p : Addr} {o : HO} (n : H p = none) : Kp H (upd H p o) :=
  ⟨fun b ob u e => by rw [upd_ne (ne_of_none e n)]; exact e, fun b xs e => by rw [upd_ne (ne_of_none e n)]; exact e⟩
theorem Kp.put {H : Hp} {p : Addr} {o u : HO} (h : H p = some u) (hf : ∀ ob w, u ≠ .frz ob w) (ht : ∀ xs, u ≠ .tup xs) : Kp H (upd H p o) :=
  ⟨fun b ob w e => by rw [upd_ne (ne_of e h (fun z => hf ob w z.symm))]; exact e, fun b xs e => by rw [upd_ne (ne_of e h (fun z => ht xs z.symm))]; exact e⟩

mutual
theorem Rp.keep {H H' : Hp} (k : Kp H H') : ∀ (d : PyData) (v : V), Rp H d v → Rp H' d v
  | .none, v, h => by simpa only [Rp] using h
  | .bool b, v, h => by simpa only [Rp] using h
  | .int i, v, h => by simpa only [Rp] using h
  | .str x, v, h => by simpa only [Rp] using h
  | .list ds, v, h => by
    simp only [Rp] at h ⊢
    obtain ⟨a, o, xs, e, ha, r⟩ := h
    exact ⟨a, o, xs, e, k.fz _ _ _ ha, RpL.keep k ds xs r⟩
  | .tuple ds, v, h => by
    simp only [Rp] at h ⊢
    obtain ⟨a, xs, e, ha, r⟩ := h
    exact ⟨a, xs, e, k.tu _ _ ha, RpL.keep k ds xs r⟩
  | .dict kds, v, h => by
    simp only [Rp] at h ⊢
    rcases h with ⟨a, o, kvs, e, ha, r⟩ | ⟨e0, a, o, e, ha, n⟩
    · exact .inl ⟨a, o, kvs, e, k.fz _ _ _ ha, RpD.keep k kds kvs r⟩
    · exact .inr ⟨e0, a, o, e, k.fz _ _ _ ha, n⟩
theorem RpL.keep {H H' : Hp} (k : Kp H H') : ∀ (ds : List PyData) (xs : List V), RpL H ds xs → RpL H' ds xs
  | [], xs, h => by simpa only [RpL] using h
  | d :: ds, xs, h => by
    simp only [RpL] at h ⊢
    obtain ⟨x, r, e, h1, h2⟩ := h
    exact ⟨x, r, e, Rp.keep k d x h1, RpL.keep k ds r h2⟩
theorem RpD.keep {H H' : Hp} (k : Kp H H') : ∀ (kds : List (PyData × PyData)) (kvs : List (Key × V)), RpD H kds kvs → RpD H' kds kvs
  | [], xs, h => by simpa only [RpD] using h
  | (ky, d) :: ds, xs, h => by
    simp only [RpD] at h ⊢
    obtain ⟨kk, v, r, e, h0, h1, h2⟩ := h
    exact ⟨kk, v, r, e, h0, Rp.keep k d v h1, RpD.keep k ds r h2⟩
end


mutual
/-- a value is at most one data -/
theorem Rp.one {H : Hp} : ∀ (d e : PyData) (v : V), Rp H d v → Rp H e v → d = e
  | .none, e, v, h, k => by
    simp only [Rp] at h; subst h
    cases e <;> simp [Rp] at k ⊢
  | .bool b, e, v, h, k => by
    simp only [Rp] at h; subst h
    cases e <;> simp [Rp] at k ⊢
    exact k
  | .int b, e, v, h, k => by
    simp only [Rp] at h; subst h
    cases e <;> simp [Rp] at k ⊢
    exact k
  | .str b, e, v, h, k => by
    simp only [Rp] at h; subst h
    cases e <;> simp [Rp] at k ⊢
    exact k
  | .list ds, e, v, h, k => by
    simp only [Rp] at h
    obtain ⟨a, o, xs, rfl, ha, r⟩ := h
    cases e with
    | list es =>
      simp only [Rp] at k
      obtain ⟨a', o', xs', e1, ha', r'⟩ := k
      cases e1
      rw [ha] at ha'
      cases ha'
      rw [RpL.one ds es xs r r']
    | tuple es =>
      simp only [Rp] at k
      obtain ⟨a', xs', e1, ha', r'⟩ := k
      cases e1
      rw [ha] at ha'
      cases ha'
    | dict es =>
      simp only [Rp] at k
      rcases k with ⟨a', o', xs', e1, ha', r'⟩ | ⟨_, a', o', e1, ha', _⟩ <;> cases e1 <;> rw [ha] at ha' <;> cases ha'
    | _ => simp [Rp] at k
  | .tuple ds, e, v, h, k => by
    simp only [Rp] at h
    obtain ⟨a, xs, rfl, ha, r⟩ := h
    cases e with
    | list es =>
      simp only [Rp] at k
      obtain ⟨a', o', xs', e1, ha', r'⟩ := k
      cases e1
      rw [ha] at ha'
      cases ha'
    | tuple es =>
      simp only [Rp] at k
      obtain ⟨a', xs', e1, ha', r'⟩ := k
      cases e1
      rw [ha] at ha'
      cases ha'
      rw [RpL.one ds es xs r r']
    | dict es =>
      simp only [Rp] at k
      rcases k with ⟨a', o', xs', e1, ha', r'⟩ | ⟨_, a', o', e1, ha', _⟩ <;> cases e1 <;> rw [ha] at ha' <;> cases ha'
    | _ => simp [Rp] at k
  | .dict ds, e, v, h, k => by
    simp only [Rp] at h
    rcases h with ⟨a, o, xs, rfl, ha, r⟩ | ⟨rfl, a, o, rfl, ha, r⟩
    · cases e with
      | list es =>
        simp only [Rp] at k
        obtain ⟨a', o', xs', e1, ha', r'⟩ := k
        cases e1
        rw [ha] at ha'
        cases ha'
      | tuple es =>
        simp only [Rp] at k
        obtain ⟨a', xs', e1, ha', r'⟩ := k
        cases e1
        rw [ha] at ha'
        cases ha'
      | dict es =>
        simp only [Rp] at k
        rcases k with ⟨a', o', xs', e1, ha', r'⟩ | ⟨_, a', o', e1, ha', _⟩
        · cases e1
          rw [ha] at ha'
          cases ha'
          rw [RpD.one ds es xs r r']
        · cases e1
          rw [ha] at ha'
          cases ha'
      | _ => simp [Rp] at k
    · cases e with
      | list es =>
        simp only [Rp] at k
        obtain ⟨a', o', xs', e1, ha', r'⟩ := k
        cases e1
        rw [ha] at ha'
        cases ha'
      | tuple es =>
        simp only [Rp] at k
        obtain ⟨a', xs', e1, ha', r'⟩ := k
        cases e1
        rw [ha] at ha'
        cases ha'
      | dict es =>
        simp only [Rp] at k
        rcases k with ⟨a', o', xs', e1, ha', r'⟩ | ⟨rfl, a', o', e1, ha', _⟩
        · cases e1
          rw [ha] at ha'
          cases ha'
        · rfl
      | _ => simp [Rp] at k
theorem RpL.one {H : Hp} : ∀ (ds es : List PyData) (xs : List V), RpL H ds xs → RpL H es xs → ds = es
  | [], es, xs, h, k => by
    simp only [RpL] at h; subst h
    cases es with
    | nil => rfl
    | cons e es => simp [RpL] at k
  | d :: ds, es, xs, h, k => by
    simp only [RpL] at h
    obtain ⟨x, r, rfl, h1, h2⟩ := h
    cases es with
    | nil => simp [RpL] at k
    | cons e es =>
      simp only [RpL] at k
      obtain ⟨x', r', e1, k1, k2⟩ := k
      cases e1
      rw [Rp.one d e x h1 k1, RpL.one ds es r h2 k2]
theorem RpD.one {H : Hp} : ∀ (ds es : List (PyData × PyData)) (xs : List (Key × V)), RpD H ds xs → RpD H es xs → ds = es
  | [], es, xs, h, k => by
    simp only [RpD] at h; subst h
    cases es with
    | nil => rfl
    | cons e es => simp [RpD] at k
  | (ky, d) :: ds, es, xs, h, k => by
    simp only [RpD] at h
    obtain ⟨kk, x, r, rfl, h0, h1, h2⟩ := h
    cases es with
    | nil => simp [RpD] at k
    | cons e es =>
      obtain ⟨ky', e⟩ := e
      simp only [RpD] at k
      obtain ⟨kk', x', r', e1, k0, k1, k2⟩ := k
      cases e1
      rw [h0, k0, Rp.one d e x h1 k1, RpD.one ds es r h2 k2]
end

/-- each of these places holds data that is no deeper -/
def Low (H : Hp) (n : Nat) (bs : List Addr) : Prop := ∀ b ∈ bs, ∃ d, Rp H d (.ref b) ∧ d.depth ≤ n
theorem Low.mono {H : Hp} {n m : Nat} {bs : List Addr} (h : Low H n bs) (k : n ≤ m) : Low H m bs := fun b hb => let ⟨d, r, l⟩ := h b hb; ⟨d, r, Nat.le_trans l k⟩
theorem Low.both {H : Hp} {n : Nat} {bs cs : List Addr} (h : Low H n bs) (k : Low H n cs) : Low H n (bs ++ cs) := fun b hb => (List.mem_append.mp hb).elim (h b) (k b)
theorem Low.top {H : Hp} {n : Nat} {a : Addr} {d : PyData} {bs : List Addr} (h : Low H n bs) (r : Rp H d (.ref a)) (k : n < d.depth) : a ∉ bs ∧ Low H d.depth (a :: bs) := by
  constructor
  · intro hm
    obtain ⟨d', r', l⟩ := h a hm
    rw [Rp.one d d' _ r r'] at k
    omega
  · intro b hb
    rcases List.mem_cons.mp hb with rfl | hb
    · exact ⟨d, r, Nat.le_refl _⟩
    · exact (h.mono (Nat.le_of_lt k)) b hb
theorem Low.nil {H : Hp} {n : Nat} : Low H n [] := fun b hb => absurd hb List.not_mem_nil

section
variable {P : Program} {w : World} {H : Hp} {h : Heap}
theorem lst_at (ok : HOk P w H h) {a : Addr} {o : Obj} {xs : List V} (e : H a = some (.frz o (.lst xs))) : ∃ (its : List Value) (n : Nat), Vals xs its ∧ h.get? a = some { cls := .type "list", data := .seq its.toArray n } := by
  obtain ⟨_, _, its, n, r, q⟩ := ok a _ e
  exact ⟨its, n, r, q⟩
theorem tup_at (ok : HOk P w H h) {a : Addr} {xs : List V} (e : H a = some (.tup xs)) : ∃ (its : List Value) (o : Obj) (n : Nat), Vals xs its ∧ h.get? a = some o ∧ o.cls = .type "tuple" ∧ o.data = .seq its.toArray n := by
  obtain ⟨_, its, r, o, e1, e2, n, e3⟩ := ok a _ e
  exact ⟨its, o, n, r, e1, e2, e3⟩
theorem dct_at (ok : HOk P w H h) {a : Addr} {o : Obj} {kvs : List (Key × V)} (e : H a = some (.frz o (.dK kvs))) : (a == sysModules) = false ∧ ∃ (kus : List (Key × Value)) (ob : Obj) (es : Array DictEntry) (n : Nat),
    KV kvs kus ∧ h.get? a = some ob ∧ ob.cls = .type "dict" ∧ ob.data = .dict es n ∧ Pairs (mixKind P w) es.toList kus := by
  obtain ⟨_, _, sm, kus, r, ob, es, n, e1, e2, e3, _, e5, _⟩ := ok a _ e
  exact ⟨sm, kus, ob, es, n, r, e1, e2.1, e3, e5⟩
theorem key_repr {ky : Key} {u : Value} {bs : List Addr} {n : Nat} (e : (mixKind P w).is ky u = true) (hs : (kD ky).showable = true) (hz : (kD ky).shown.length ≤ sizeLine) : ReprK P w bs h n u (kD ky).shown := by
  rcases keyIs_shape (k := ky) (v := u) e with ⟨i, t, rfl, rfl⟩ | ⟨x, t, rfl, rfl⟩
  · simp only [kD, PyData.shown]
    exact .of_is (ReprIs.int t (by simpa [kD, PyData.showable] using hs)) _ _ _
  · simp only [kD, PyData.shown] at hz ⊢
    exact .of_is (ReprIs.str x t hz) _ _ _

theorem non_at (ok : HOk P w H h) {a : Addr} {o : Obj} (e : H a = some (.frz o (NDh a o))) (no : NonO o) : h.get? a = some o ∧ o.cls = .type "dict" ∧ ∃ (ep : Nat) (t : Tok), o.data = .dict #[⟨hNone, .none, .int 1 t⟩] ep := by
  obtain ⟨e1, _⟩ := ok a _ e
  obtain ⟨c, ep, t, dd⟩ := no
  exact ⟨e1, c.1, ep, t, dd⟩
theorem non_entries {bs : List Addr} {n : Nat} {t : Tok} : ReprEntriesK P w bs h n (#[(⟨hNone, .none, .int 1 t⟩ : DictEntry)]).toList (PyData.shownKv [(.none, .int 1)]) := by
  simp only [PyData.shownKv, PyData.shown]
  exact .cons (.of_is ReprIs.none _ _ _) (.of_is (ReprIs.int t (by decide)) _ _ _) .nil

theorem dText_mem {ps : List Str} {p : Str} (h : p ∈ ps) : p.length ≤ (dictText ps).length := dictText_mem_le h

theorem entries_more {as as' : List Addr} {d d' : Nat} (hsub : ∀ b ∈ as, b ∈ as') (hd : d ≤ d') : ∀ {l : List DictEntry} {ts : List Str}, ReprEntriesK P w as h d l ts → ReprEntriesK P w as' h d' l ts
  | _, _, .nil => .nil
  | _, _, .cons hk hv hl => .cons ((hk.more hsub).level_le hd) ((hv.more hsub).level_le hd) (entries_more hsub hd hl)

mutual
theorem Rp.repr (ok : HOk P w H h) : ∀ (d : PyData) (v : V) (u : Value), Rp H d v → RelV v u → d.showable = true → d.shown.length ≤ sizeLine →
    ∃ bs, Low H d.depth bs ∧ ReprK P w bs h d.depth u d.shown
  | .none, v, u, r, rv, _, _ => by
    simp only [Rp] at r; subst r; cases rv
    refine ⟨[], Low.nil, ?_⟩
    simp only [PyData.shown]
    exact .of_is ReprIs.none _ _ _
  | .bool b, v, u, r, rv, _, _ => by
    simp only [Rp] at r; subst r; cases rv
    refine ⟨[], Low.nil, ?_⟩
    simp only [PyData.shown]
    exact .of_is (ReprIs.bool b) _ _ _
  | .int i, v, u, r, rv, hs, _ => by
    simp only [Rp] at r; subst r
    obtain ⟨t, rfl⟩ := rv
    refine ⟨[], Low.nil, ?_⟩
    simp only [PyData.shown]
    exact .of_is (ReprIs.int t (by simpa [PyData.showable] using hs)) _ _ _
  | .str x, v, u, r, rv, _, hz => by
    simp only [Rp] at r; subst r
    obtain ⟨t, rfl⟩ := rv
    refine ⟨[], Low.nil, ?_⟩
    simp only [PyData.shown] at hz ⊢
    exact .of_is (ReprIs.str x t hz) _ _ _
  | .list ds, v, u, r, rv, hs, hz => by
    have r0 := r
    simp only [Rp] at r
    obtain ⟨a, o, xs, rfl, ha, rl⟩ := r
    cases rv
    obtain ⟨its, n, vl, e1⟩ := lst_at ok ha
    simp only [PyData.shown] at hz
    obtain ⟨bs, lo, k⟩ := RpL.repr ok ds xs its rl vl (by simpa [PyData.showable] using hs) fun t ht => Nat.le_trans (listText_mem_le ht) hz
    obtain ⟨na, lo'⟩ := lo.top r0 (by simp only [PyData.depth]; omega)
    refine ⟨a :: bs, lo', ?_⟩
    simp only [PyData.depth, PyData.shown]
    cases its with
    | nil =>
      generalize hq : PyData.shownAll ds = ts at k
      cases k
      simp only [listText_nil]
      exact ReprK.listEmpty e1 rfl rfl
    | cons x l => exact ReprK.list e1 rfl rfl na (by simpa using k.length_eq) (fun i y e => k.item i y (by simpa using e))
  | .tuple ds, v, u, r, rv, hs, hz => by
    have r0 := r
    simp only [Rp] at r
    obtain ⟨a, xs, rfl, ha, rl⟩ := r
    cases rv
    obtain ⟨its, o, n, vl, e1, e2, e3⟩ := tup_at ok ha
    simp only [PyData.shown] at hz
    obtain ⟨bs, lo, k⟩ := RpL.repr ok ds xs its rl vl (by simpa [PyData.showable] using hs) fun t ht => Nat.le_trans (tupleText_mem_le ht) hz
    obtain ⟨na, lo'⟩ := lo.top r0 (by simp only [PyData.depth]; omega)
    refine ⟨a :: bs, lo', ?_⟩
    simp only [PyData.depth, PyData.shown]
    exact ReprK.tuple e1 e2 e3 na k
  | .dict kds, v, u, r, rv, hs, hz => by
    have r0 := r
    simp only [Rp] at r
    rcases r with ⟨a, o, kvs, rfl, ha, rl⟩ | ⟨rfl, a, o, rfl, ha, no, sm⟩
    · cases rv
      obtain ⟨sm, kus, ob, es, n, kv, e1, e2, e3, pr⟩ := dct_at ok ha
      simp only [PyData.shown] at hz
      obtain ⟨bs, lo, k⟩ := RpD.repr ok kds kvs es.toList kus rl kv pr (by simpa [PyData.showable] using hs) fun t ht => Nat.le_trans (dictText_mem_le ht) hz
      obtain ⟨na, lo'⟩ := lo.top r0 (by simp only [PyData.depth]; omega)
      refine ⟨a :: bs, lo', ?_⟩
      simp only [PyData.depth, PyData.shown]
      exact ReprK.dict e1 e2 e3 sm na k
    · cases rv
      obtain ⟨e1, e2, ep, t, e3⟩ := non_at ok ha no
      refine ⟨[a], fun b hb => ?_, ?_⟩
      · cases List.mem_singleton.mp hb
        exact ⟨_, r0, Nat.le_refl _⟩
      · simp only [PyData.depth, PyData.shown]
        exact ReprK.dict e1 e2 e3 sm (by simp) non_entries
theorem RpL.repr (ok : HOk P w H h) : ∀ (ds : List PyData) (xs : List V) (us : List Value), RpL H ds xs → Vals xs us → PyData.showableAll ds = true → (∀ t ∈ PyData.shownAll ds, t.length ≤ sizeLine) →
    ∃ bs, Low H (PyData.depthAll ds) bs ∧ ReprAllK P w bs h (PyData.depthAll ds) us (PyData.shownAll ds)
  | [], xs, us, r, vl, _, _ => by
    simp only [RpL] at r; subst r
    cases vl
    exact ⟨[], Low.nil, by simp only [PyData.shownAll]; exact .nil⟩
  | d :: ds, xs, us, r, vl, hs, hz => by
    simp only [RpL] at r
    obtain ⟨x, l, rfl, r1, r2⟩ := r
    cases vl with
    | cons v1 v2 =>
      have hs' : d.showable = true ∧ PyData.showableAll ds = true := by simpa [PyData.showableAll] using hs
      obtain ⟨b1, l1, k1⟩ := Rp.repr ok d x _ r1 v1 hs'.1 (hz _ (by simp [PyData.shownAll]))
      obtain ⟨b2, l2, k2⟩ := RpL.repr ok ds l _ r2 v2 hs'.2 fun t ht => hz t (by simp [PyData.shownAll, ht])
      simp only [PyData.depthAll, PyData.shownAll]
      exact ⟨b1 ++ b2, (l1.mono (by omega)).both (l2.mono (by omega)),
        .cons ((k1.more fun b hb => List.mem_append_left _ hb).level_le (by omega)) (k2.more_le (fun b hb => List.mem_append_right _ hb) (by omega))⟩
theorem RpD.repr (ok : HOk P w H h) : ∀ (kds : List (PyData × PyData)) (kvs : List (Key × V)) (es : List DictEntry) (kus : List (Key × Value)), RpD H kds kvs → KV kvs kus → Pairs (mixKind P w) es kus →
    PyData.showableKv kds = true → (∀ t ∈ PyData.shownKv kds, t.length ≤ sizeLine) → ∃ bs, Low H (PyData.depthKv kds) bs ∧ ReprEntriesK P w bs h (PyData.depthKv kds) es (PyData.shownKv kds)
  | [], kvs, es, kus, r, kv, pr, _, _ => by
    simp only [RpD] at r; subst r
    cases kv
    cases pr
    exact ⟨[], Low.nil, by simp only [PyData.shownKv]; exact .nil⟩
  | (k, d) :: kds, kvs, es, kus, r, kv, pr, hs, hz => by
    simp only [RpD] at r
    obtain ⟨ky, x, l, rfl, rfl, r1, r2⟩ := r
    cases kv with
    | @cons _ q _ kus' v1 v2 =>
      obtain ⟨e1, rv⟩ := v1
      cases pr with
      | @cons en _ es' _ p1 p2 p3 =>
        have hs' : ((kD ky).showable = true ∧ d.showable = true) ∧ PyData.showableKv kds = true := by simpa [PyData.showableKv] using hs
        have hz0 : ((kD ky).shown ++ ": " ++ d.shown).length ≤ sizeLine := hz _ (by simp [PyData.shownKv])
        rw [strLen_append, strLen_append] at hz0
        obtain ⟨b1, l1, k1⟩ := Rp.repr ok d x en.val r1 (by rw [p2]; exact rv) hs'.1.2 (by omega)
        obtain ⟨b2, l2, k2⟩ := RpD.repr ok kds l es' kus' r2 v2 p3 hs'.2 fun t ht => hz t (by simp [PyData.shownKv, ht])
        have k0 : ReprK P w (b1 ++ b2) h (PyData.depthKv ((kD ky, d) :: kds)) en.key (kD ky).shown := key_repr (by rw [← e1] at p1; exact p1) hs'.1.1 (by omega)
        simp only [PyData.depthKv, PyData.shownKv] at k0 ⊢
        refine ⟨b1 ++ b2, (l1.mono (by omega)).both (l2.mono (by omega)), .cons k0 ((k1.more fun b hb => List.mem_append_left _ hb).level_le (by omega)) ?_⟩
        exact entries_more (fun b hb => List.mem_append_right _ hb) (by omega) k2
end
end
end Tg
end
section
set_option Elab.async false
set_option linter.all false
set_option maxRecDepth 100000
set_option maxHeartbeats 4000000
/-! Tg, part C: rules: repr, locking for good, ** of great ints. -/
namespace Tg
open PySem PySem.Spec PyProof.Rows L2

section
variable {X : Cx}
def rRepr (A : Around) : List V → Hp → VK → Prop := fun xs H Q => ∃ (d : PyData) (v : V), xs = [v] ∧ Rp H d v ∧ d.showable = true ∧ d.shown.length ≤ sizeLine ∧ A.units + d.depth + 2 < cLine ∧ Q (.str d.shown) H
/-- repr(e) of data -/
theorem call_reprD (hg : X.A.guards = some []) : CallR X (.builtin "repr") (rRepr X.A) := by
  rintro pins s σ H xs us Q I rel ⟨d, v, rfl, r, hs, hz, hu, q⟩
  obtain ⟨u, rfl, rv⟩ := vals1 rel
  have fin : ∀ (h' : Heap) (t : Tok) (tk : Nat), (∀ b o, s.heap.get? b = some o → h'.get? b = some o) → EP X pins σ Q (.str d.shown t) { s with heap := h', toks := tk } :=
    fun h' t tk k => ⟨.str d.shown, H, I.kept k, ⟨t, rfl⟩, q⟩
  cases d with
  | none =>
    simp only [Rp] at r; subst r; cases rv
    simp only [PyData.shown] at fin
    exact PySem.P.repr_of_none (fin _ _ _ fun _ _ e => e)
  | bool b =>
    simp only [Rp] at r; subst r; cases rv
    simp only [PyData.shown] at fin
    exact PySem.P.repr_of_bool (fin _ _ _ fun _ _ e => e)
  | int i =>
    simp only [Rp] at r; subst r
    obtain ⟨t, rfl⟩ := rv
    simp only [PyData.shown] at fin
    exact PySem.P.repr_of_int (by simpa [PyData.showable] using hs) (fin _ _ _ fun _ _ e => e)
  | str x =>
    simp only [Rp] at r; subst r
    obtain ⟨t, rfl⟩ := rv
    simp only [PyData.shown] at fin hz
    exact PySem.P.repr_of_str (fin _ _ _ fun _ _ e => e) hz
  | list ds =>
    have r0 := r
    simp only [Rp] at r
    obtain ⟨a, o, ys, rfl, ha, rl⟩ := r
    cases rv
    obtain ⟨its, n, vl, e1⟩ := lst_at I.hok ha
    simp only [PyData.shown] at hz fin
    simp only [PyData.depth] at hu
    obtain ⟨bs, lo, k⟩ := RpL.repr I.hok ds ys its rl vl (by simpa [PyData.showable] using hs) fun t ht => Nat.le_trans (listText_mem_le ht) hz
    obtain ⟨na, _⟩ := lo.top r0 (by simp only [PyData.depth]; omega)
    refine call_repr_slot (by omega) ⟨_, e1, rfl⟩ F.slot_list_repr.toG ?_
    cases its with
    | nil =>
      generalize hq : PyData.shownAll ds = ts at k fin
      cases k
      simp only [listText_nil] at fin
      exact call_list_repr_empty ⟨_, e1, rfl⟩ e1 rfl ⟨_, _, rfl, fin _ _ _ fun _ _ e => e⟩
    | cons x l =>
      exact call_list_reprK e1 rfl rfl na (by simpa using k.length_eq) (fun i y e => k.item i y (by simpa using e)) hg (fun b _ => Clear.nil b) (by show X.A.units + 1 + _ < cLine; omega) (fun _ _ e => e) (fun h' t tk kk => ⟨_, _, rfl, fin h' t tk kk⟩) hz
  | tuple ds =>
    have r0 := r
    simp only [Rp] at r
    obtain ⟨a, ys, rfl, ha, rl⟩ := r
    cases rv
    obtain ⟨its, o, n, vl, e1, e2, e3⟩ := tup_at I.hok ha
    simp only [PyData.shown] at hz fin
    simp only [PyData.depth] at hu
    obtain ⟨bs, lo, k⟩ := RpL.repr I.hok ds ys its rl vl (by simpa [PyData.showable] using hs) fun t ht => Nat.le_trans (tupleText_mem_le ht) hz
    obtain ⟨na, _⟩ := lo.top r0 (by simp only [PyData.depth]; omega)
    refine call_repr_slot (by omega) ⟨_, e1, e2⟩ F.slot_tuple_repr ?_
    exact call_tuple_reprK e1 e2 e3 na k hg (fun b _ => Clear.nil b) (by show X.A.units + 1 + _ < cLine; omega) (fun _ _ e => e) (fun h' t tk kk => ⟨_, _, rfl, fin h' t tk kk⟩) hz
  | dict kds =>
    have r0 := r
    simp only [Rp] at r
    rcases r with ⟨a, o, kvs, rfl, ha, rl⟩ | ⟨rfl, a, o, rfl, ha, no, sm⟩
    · cases rv
      obtain ⟨sm, kus, ob, es, n, kv, e1, e2, e3, pr⟩ := dct_at I.hok ha
      simp only [PyData.shown] at hz fin
      simp only [PyData.depth] at hu
      obtain ⟨bs, lo, k⟩ := RpD.repr I.hok kds kvs es.toList kus rl kv pr (by simpa [PyData.showable] using hs) fun t ht => Nat.le_trans (dictText_mem_le ht) hz
      obtain ⟨na, _⟩ := lo.top r0 (by simp only [PyData.depth]; omega)
      refine call_repr_slot (by omega) ⟨_, e1, e2⟩ F.slot_dict_repr ?_
      exact call_dict_reprK e1 e2 e3 sm na k hg (fun b _ => Clear.nil b) (by show X.A.units + 1 + _ < cLine; omega) (fun _ _ e => e) (fun h' t tk kk => ⟨_, _, rfl, fin h' t tk kk⟩) hz
    · cases rv
      obtain ⟨e1, e2, ep, t, e3⟩ := non_at I.hok ha no
      simp only [PyData.shown] at hz fin
      simp only [PyData.depth] at hu
      refine call_repr_slot (by omega) ⟨_, e1, e2⟩ F.slot_dict_repr ?_
      exact call_dict_reprK (as := []) e1 e2 e3 sm (by simp) (non_entries (n := 0)) hg (fun b _ => Clear.nil b) (by show X.A.units + 1 + _ < cLine; omega) (fun _ _ e => e) (fun h' t tk kk => ⟨_, _, rfl, fin h' t tk kk⟩) hz

/-- what e gives is locked for good -/
def tFz (t : TE) : TE := fun σ H Q => t σ H fun v H1 => ∃ p u, v = .ref p ∧ H1 p = some u ∧ Mut (some u) ∧ ∀ o, Q v (upd H1 p (.frz o u))
theorem pe_fz {e : Expr} {t : TE} (h : PE X e t) : PE X e (tFz t) := by
  constructor
  intro pins s σ H Q I q
  refine thn (h.run pins s σ H _ I q) ?_
  rintro v s1 ⟨x, H1, I1, rv, p, u, rfl, hp, mu, q⟩
  obtain ⟨o, I2⟩ := I1.lock hp mu
  exact ⟨.ref p, _, I2, rv, q o⟩

/-- ** of a great base -/
def CPowW (i j : Int) : Prop := 0 ≤ j ∧ (Builtin.Int.intBits i : Int) * j ≤ 2 ^ 27
theorem op_powW : OpR X (binaryOp .Pow) (rI CPowW fun i j => .int (i ^ j.toNat)) := by
  refine opI fun i j t u s Q E hc q => ?_
  exact pow_int hc.1 hc.2 q
end
end Tg
end
section
set_option Elab.async false
set_option linter.all false
set_option maxRecDepth 100000
set_option maxHeartbeats 4000000
/-! Tg, part D: an own error over ValueError whose __init__ says super().__init__(value); self.value = value. -/
namespace Tg
open PySem PySem.Spec PyProof.Rows L2

/-- super().__init__(value); self.value = value -/
abbrev iBody : List Stmt :=
  [.Expr (.Call (.Attribute (.Call (.Name "super" ⟨5, 8, 5, 13⟩) [] [] ⟨5, 8, 5, 15⟩) "__init__" ⟨5, 8, 5, 24⟩) [.Name "value" ⟨5, 25, 5, 30⟩] [] ⟨5, 8, 5, 31⟩) ⟨5, 8, 5, 31⟩,
    .Assign [.Attribute (.Name "self" ⟨6, 8, 6, 12⟩) "value" ⟨6, 8, 6, 18⟩] (.Name "value" ⟨6, 21, 6, 26⟩) ⟨6, 8, 6, 26⟩]
abbrev iArgs : Arguments := { posonlyargs := [], args := [{ arg := "self", annotation := none, pos := ⟨4, 17, 4, 21⟩ }, { arg := "value", annotation := none, pos := ⟨4, 23, 4, 28⟩ }], vararg := none, kwonlyargs := [], kw_defaults := [], kwarg := none, defaults := [] }
abbrev iScope : Scope := { kind := .function, names := [("self", .local), ("value", .local), ("__class__", .free), ("super", .globalImplicit)], isGenerator := false, isCoroutine := false, more := [] }
abbrev iFn (ql : Str) (dV kV dc pm : Value) (an : Option Addr) (cda : Addr) (ct : Value) (cc : Addr) : FuncData := PySem.W.ksFn "__init__" ql iArgs iBody iScope dV kV dc pm an (.ref cda) ct cc

section
open PySem.W PySem.Calls
variable {P : Program} {w : World} {A : Around} {E : Value → Shared → Prop} {h : Heap} {g : Array GenState} {d : Drawn} {t : Nat} {os : OsState}
/-- the built-in __init__, bound to an error, called -/
theorem call_veb {B i newId : String} {bmB : List Value} {nm q : Str} {C N u e t0 : Addr} {bs bm : List Value} {hd : Bool} {sn : List Str} {sub : List Value} {ab : Bool} {col : Option Bool} {dd : Option Addr} {k0 k1 k2 k3 k5 : Option Value} {rest : List Value} {Q : Value → Shared → Prop}
    (FB : ExcBaseFacts B newId i bmB) (hC : h.get? C = some (excClassObj nm q C N bs bm hd sn sub ab col dd k0 k1 k2 k3 k5 newId)) (he : h.get? e = some (HandSPX.excO C t0)) (hu : h.get? u = some (kxs_mw i e)) (hz : rest.length ≤ sizeLine)
    (hq : ∀ h' t1, (∀ b o, b ≠ e → h.get? b = some o → h'.get? b = some o) → h'.get? e = some (HandSPX.excO C t1) → Q .none ⟨h', g, d, t, os⟩) :
    wpAny (model P w) A (call (.ref u) rest) Q E ⟨h, g, d, t, os⟩ := by
  refine wpAny_call (codeAny_of_tree ?_)
  show wpAny _ A.in1 (callAny (.ref u) ⟨rest, []⟩) _ _ _
  simp only [callAny]
  refine wpAny_bind (wpAny_load hu ?_)
  have mw : (Value.type "method-wrapper" == Value.type "method" || Value.type "method-wrapper" == Value.type "builtin_function_or_method" || Value.type "method-wrapper" == Value.type "method-wrapper") = true := by decide
  simp only [kxs_mw, mw, if_true]
  refine KFB.if_so (by decide) ?_
  refine wpAny_bind (check_bound_init FB.toExcCallFacts hC he rfl ?_)
  refine wpAny_bind (wpAny_pure (wpAny_pure ?_))
  refine ⟨plainId_quiet FB.init.plain _, codeAny_builtin FB.initEntry ?_⟩
  exact exc_init_tree (cls := .ref C) (t0 := t0) (dv := none) (c2 := .none) (c3 := .none) (b4 := .bool false) he hz fun h' k e' _ => hq h' h.objs.size k e'
end

section
open PySem.W PySem.Calls
variable {P : Program} {w : World} {A : Around} {R : Result → Shared → Prop} {s : Shared} {K : Frag} {mg mb : Str → Option Value}
/-- that __init__ at a new error -/
theorem init_run {f cc cda D C e t1 : Addr} {u : Value} {ql file : Str} {dV kV dc pm ct oc ccl cl : Value} {an od cdd cld : Option Addr} {sl ccs csl : Array (Option Value)} {vs : Array Value} {tf : Tok} {cdD : ClassData} {ag : Args}
    {nm q : Str} {N : Addr} {bs bm : List Value} {sn : List Str} {sub : List Value} {ab : Bool} {col : Option Bool} {dd : Option Addr} {k0 k1 k2 k3 k5 : Option Value}
    (X : K.In s.heap) (room : A.depth < recursionLimit) (lim : s.heap.NoLimit) (gns : s.heap.Ns mainGlobals mg) (hsu : mg "super" = none) (bns : s.heap.Ns builtinsNs mb) (bbt : ∀ x : Str, x ≠ "__name__" → mb x = bootBuiltins x)
    (lk : K.lookup f = some ⟨oc, od, .func (iFn ql dV kV dc pm an cda ct cc), sl⟩) (hcd : codeIn K (.ref cda) ql = true)
    (hcode : K.lookup cda = some ⟨ccl, cdd, .fields vs, ccs⟩) (hvs : vs[2]? = some (.str file tf)) (hfile : ((P.main.file : Str) == file) = true) (htop : (P.main.scope.names.lookup ("super" : Str)).isSome = false)
    (hcell : K.lookup cc = some ⟨cl, cld, .cell (some (.ref D)), csl⟩) (hD : clsIn K D = some cdD)
    (hC : K.lookup C = some (excClassObj nm q C N bs bm true sn sub ab col dd k0 k1 k2 k3 k5 "ValueError.__new__")) (hbm : HandSPX.refsVE bm = true) (hsub : mroIn K C (.ref D) = some true) (hsp : ks_superIn K C D "__init__" = some (some (.builtin "ValueError.__init__")))
    (h3 : nsIn K cStatics "thirdparty.any" = some none) (hve : subIn K (.ref C) (.type "ValueError") = some true) (hsa : findIn K (.ref C) "__setattr__" = some (some (.builtin "object.__setattr__"))) (hno : findIn K (.ref C) "value" = some none)
    (he : s.heap.get? e = some (HandSPX.excO C t1)) (hnk : K.lookup e = none) (hb : BindsTo s (iFn ql dV kV dc pm an cda ct cc) ag [("self", .ref e), ("value", u)])
    (hq : ∀ s' dx t2, s'.os = s.os → s'.gens = s.gens → (∀ b o, b ≠ e → s.heap.get? b = some o → s'.heap.get? b = some o) → s.heap.objs.size ≤ dx → dx ≠ e →
      s'.heap.get? e = some { cls := .ref C, dict := some dx, data := .fields #[.ref t2, .none, .none, .none, .bool false, .none] } → s'.heap.Ns1 dx (fun y => if y = "value" then some u else none) → R (.ok (.ret .none)) s') :
    codeAny (model P w) A (.call (.ref f) ag) R s := by
  have hcl : clsIn K C = some { name := nm, bases := bs, mro := .ref C :: bm, ns := N, qualname := q, hasDict := true, slotNames := sn, subclasses := sub, abstract := ab, collection := col, hasDel := false } := by
    unfold clsIn; rw [hC] <;> rfl
  obtain ⟨hh, g, dr, t, os⟩ := s
  have eL : e ≠ hh.objs.size := Nat.ne_of_lt (Heap.lt_size he)
  refine ks_codeAny_call_defAt (fd := iFn ql dV kV dc pm an cda ct cc) (binds := [("self", .ref e), ("value", u)]) room (X _ _ lk) rfl lim (codeRec_of X hcd) rfl hb (fun x hx => ?_) (fun x hx => ?_) (fun h₁ hns hk => ?_)
  · have hx' : x ∈ ([("self", .local), ("value", .local), ("__class__", .free), ("super", .globalImplicit)] : List (Str × NameKind)) := hx
    simp only [List.mem_cons, List.not_mem_nil, or_false] at hx'
    rcases hx' with rfl | rfl | rfl | rfl <;> exact fun z => nomatch z
  · rcases List.mem_cons.mp hx with rfl | hx
    · rfl
    · rcases List.mem_cons.mp hx with rfl | hx
      · rfl
      · exact absurd hx List.not_mem_nil
  have X1 : K.In h₁ := fun b o z => hk b o (X b o z)
  have e1 : h₁.get? e = some (HandSPX.excO C t1) := hk _ _ he
  obtain ⟨oD, hD1, hD2⟩ : ∃ oD, h₁.get? D = some oD ∧ oD.data = .cls cdD := by
    unfold clsIn at hD
    split at hD
    · rename_i c d cd' sl ho
      cases hD
      exact ⟨_, X1 _ _ ho, rfl⟩
    · cases hD
  refine ks_wpAt_execs_cons (ks_wpAt_Expr_any (ks_wpAt_MethodCall ?_))
  refine ks_wpAt_super_base (env := ksEnv ql iScope hh.objs.size f (.ref cda) cc) rfl rfl (by decide) rfl (X1 _ _ lk) rfl rfl rfl (X1 _ _ hcode) rfl hvs hfile htop ?_
  refine ks_loadName_global rfl rfl (loadGlobal_builtin (env := ksEnv ql iScope hh.objs.size f (.ref cda) cc) (gns.keeps hk) hsu (bns.keeps hk) ((bbt _ (by decide +kernel)).trans PyProof.Rows.Boot.super) ⟨rfl, ?_⟩)
  refine wpAny_loadName_free rfl rfl rfl ⟨_, X1 _ _ hcell, rfl⟩ ?_
  refine wpAny_loadName_local (v := .ref e) rfl rfl hns rfl ?_
  refine ks_wpAny_isType_cls hD1 hD2 ⟨rfl, ?_⟩
  refine ks_wpAny_call_super hD1 hD2 e1 rfl (fun c z => nomatch z) (looks_mroIn X1 hsub) (fun h₂ so k2 => ?_)
  -- the method
  have X2 : K.In h₂ := fun b o z => k2 b o (X1 b o z)
  have e2 : h₂.get? e = some (HandSPX.excO C t1) := k2 _ _ e1
  have I2 : InstAt h₂ e (HandSPX.excO C t1) C none := ⟨e2, rfl, rfl, trivial⟩
  have eC : e ≠ C := ks_ne X2 I2 hcl
  have hm : alongIn K "__init__" (((Value.ref C :: bm).dropWhile (· != .ref D)).drop 1) = some (some (.builtin "ValueError.__init__")) := by
    have z := hsp
    unfold ks_superIn at z
    rw [hcl] at z
    exact z
  refine kxs_getMethod kxs_ValueError so (looks_opaque X2 h3) (l₀ := Value.ref C :: bm) ((looks_clsIn X2 hcl).andThen .now) rfl X2 hm (I2.type.andThen (looks_subIn X2 hve)) eC (by decide) ?_
  -- the call of the bound one
  dsimp only
  refine kxs_callWith (i := "ValueError.__init__") (x := e) rfl ?_
  have hns2 := hns.keeps k2
  have k3 : ∀ b o, h₂.get? b = some o → (h₂.push (kxs_mw "ValueError.__init__" e)).get? b = some o := fun b o z => Heap.get?_push_of_some _ z
  have hu : (h₂.push (kxs_mw "ValueError.__init__" e)).get? h₂.objs.size = some (kxs_mw "ValueError.__init__" e) := Heap.get?_push_at rfl rfl
  refine evalArgs_plain (spliced_cons ?_)
  refine wpAny_Name (wpAny_loadName_local (v := u) rfl rfl (hns2.keeps k3) rfl ?_) (by decide)
  refine spliced_nil ⟨hu, ?_⟩
  refine call_veb F.excBase_ValueError (k3 _ _ (X2 _ _ hC)) (k3 _ _ e2) hu (by show 1 ≤ sizeLine; decide) fun h₃ t2 k4 e3 => ?_
  -- self.value = value
  have k34 : ∀ b o, b ≠ e → h₂.get? b = some o → h₃.get? b = some o := fun b o hb z => k4 b o hb (k3 b o z)
  have hns3 := hns2.at (h' := h₃) fun o z => k34 _ o (Ne.symm eL) z
  have hC2 : h₂.get? C = _ := X2 _ _ hC
  have X3 : K.In h₃ := fun b o z => k34 b o (fun y => by
    rw [y] at z
    rw [hnk] at z
    cases z) (X2 b o z)
  refine ks_wpAt_execs_cons (ks_wpAt_Assign_Attr ?_)
  refine wpAt_of_wpAny (wpAny_Name (wpAny_loadName_local (v := u) rfl rfl hns3 rfl ?_) (by decide))
  refine wpAny_Name (wpAny_loadName_local (v := .ref e) rfl rfl hns3 rfl ?_) (by decide)
  refine set_plain X3 (ox := HandSPX.excO C t2) (od := none) ⟨e3, rfl, rfl, trivial⟩ hsa ?_
  refine HandSPX.exc_osa X3 e3 hcl (show HandSPX.refsVE (.ref C :: bm) = true from hbm) rfl hno (fun h₄ tk dx k5 dn dne hx hn => ?_)
  refine wpAt_of_wpAny (wpAny_execs_nil ?_)
  refine hq _ dx t2 rfl rfl (fun b o hb z => k5 b o hb (k34 b o hb (k2 b o (hk b o z)))) ?_ dne hx hn
  have l0 : hh.objs.size < h₃.objs.size := hns3.lt
  exact Nat.le_trans (Nat.le_of_lt l0) dn
end
end Tg
end
section
set_option Elab.async false
set_option linter.all false
set_option maxRecDepth 100000
set_option maxHeartbeats 4000000
/-! Tg, part E: such errors in the layer: made as values, raised, asked for their class and their value. -/
namespace Tg
open PySem PySem.Spec PyProof.Rows L2

/-- the class at C is such an error (its __init__ the def at fI, of the class at D) -/
structure ErrC (K : PySem.W.Frag) (fI D C : Addr) : Prop where
  ox : OexC K C
  ini : PySem.W.findIn K (.ref C) "__init__" = some (some (.ref fI))
  sub : PySem.W.mroIn K C (.ref D) = some true
  sup : PySem.W.ks_superIn K C D "__init__" = some (some (.builtin "ValueError.__init__"))
  ve : PySem.W.subIn K (.ref C) (.type "ValueError") = some true
  no : PySem.W.findIn K (.ref C) "value" = some none
  xc : ExcC K C

def clsB (K : PySem.W.Frag) (C : Addr) : Bool := match K.lookup C with
  | some ⟨.type "type", _, .cls cd, sl⟩ => (match cd.mro, sl.toList with
    | .ref C' :: bm, [_, _, _, _, some (.builtin n), _] => C' == C && n == "ValueError.__new__" && !cd.hasDel && cd.hasDict && PySem.HandSPX.refsVE bm
    | _, _ => false)
  | _ => false
theorem clsB_ok {K : PySem.W.Frag} {C : Addr} (z : clsB K C = true) : ∃ nm q N bs bm sn sub ab col dd k0 k1 k2 k3 k5,
    K.lookup C = some (excClassObj nm q C N bs bm true sn sub ab col dd k0 k1 k2 k3 k5 "ValueError.__new__") ∧ PySem.HandSPX.refsVE bm = true := by
  unfold clsB at z
  split at z
  · rename_i dd cd sl ho
    split at z
    · rename_i C' bm k0 k1 k2 k3 n k5 hm hs
      simp only [Bool.and_eq_true, beq_iff_eq, Bool.not_eq_true'] at z
      obtain ⟨⟨⟨⟨rfl, rfl⟩, hdel⟩, hdct⟩, hr⟩ := z
      cases cd with
      | mk nm bs mro ns qn hd sn sub ab col del =>
        dsimp only at hm hdel hdct
        subst hm hdel hdct
        cases sl with
        | mk l =>
          simp only at hs
          subst hs
          exact ⟨_, _, _, _, _, _, _, _, _, _, _, _, _, _, _, ho, hr⟩
    · cases z
  · cases z
/-- all that is asked of the class, by one look -/
def errB (K : PySem.W.Frag) (fI D C : Addr) : Bool :=
  clsB K C && decide (PySem.W.findIn K (.ref C) "__setattr__" = some (some (.builtin "object.__setattr__"))) && decide (PySem.W.subIn K (.ref C) (.type "BaseException") = some true) && decide (PySem.W.typeIn K (.ref C) = some (.type "type")) &&
  PySem.W.keepIn K (.ref C) && decide (PySem.W.findIn K (.ref C) "__init__" = some (some (.ref fI))) && decide (PySem.W.mroIn K C (.ref D) = some true) && decide (PySem.W.ks_superIn K C D "__init__" = some (some (.builtin "ValueError.__init__"))) &&
  decide (PySem.W.subIn K (.ref C) (.type "ValueError") = some true) && decide (PySem.W.findIn K (.ref C) "value" = some none) &&
  decide (PySem.W.findIn K (.ref C) "__getattribute__" = some (some (.builtin "BaseException.__getattribute__"))) && decide (PySem.W.findIn K (.ref C) "__getattr__" = some none) && PySem.W.hasDictIn K C &&
  decide (PySem.W.findIn K (.ref C) "__class__" = some (some (.builtin "object.__class__"))) && decide (PySem.W.specialIn K (.builtin "object.__class__") "__get__" = some (some (.builtin "getset_descriptor.__get__"))) &&
  decide (PySem.W.takesIn K (.builtin "object.__class__") = some true) && decide (PySem.W.mroIn K C (.type "object") = some true)
theorem errB_ok {K : PySem.W.Frag} {fI D C : Addr} (z : errB K fI D C = true) : ErrC K fI D C := by
  unfold errB at z
  simp only [Bool.and_eq_true, decide_eq_true_eq] at z
  obtain ⟨⟨⟨⟨⟨⟨⟨⟨⟨⟨⟨⟨⟨⟨⟨⟨z1, z2⟩, z3⟩, z4⟩, z5⟩, z6⟩, z7⟩, z8⟩, z9⟩, z10⟩, z11⟩, z12⟩, z13⟩, z14⟩, z15⟩, z16⟩, z17⟩ := z
  exact ⟨⟨clsB_ok z1, z2, z3, z4, z5⟩, z6, z7, z8, z9, z10, ⟨z11, z12, z3, z13, z14, z15, z16, z17⟩⟩

/-- what the written part says of that __init__ -/
structure IniT (P : Program) (K : PySem.W.Frag) (mg : Str → Option Value) (fI D : Addr) (fd : FuncData) : Prop where
  fn : ∃ (ql file : Str) (dV kV dc pm ct oc ccl cl : Value) (an od cdd cld : Option Addr) (sl ccs csl : Array (Option Value)) (cda cc : Addr) (vs : Array Value) (tf : Tok) (cdD : ClassData),
    fd = iFn ql dV kV dc pm an cda ct cc ∧ K.lookup fI = some ⟨oc, od, .func fd, sl⟩ ∧ PySem.W.codeIn K (.ref cda) ql = true ∧ K.lookup cda = some ⟨ccl, cdd, .fields vs, ccs⟩ ∧ vs[2]? = some (.str file tf) ∧ ((P.main.file : Str) == file) = true ∧
    K.lookup cc = some ⟨cl, cld, .cell (some (.ref D)), csl⟩ ∧ PySem.W.clsIn K D = some cdD
  su : mg "super" = none
  th : PySem.W.nsIn K cStatics "thirdparty.any" = some none
  tp : (P.main.scope.names.lookup ("super" : Str)).isSome = false
  ty : PySem.W.typeIn K (.ref fI) = some (.type "function")

def spIni (K : PySem.W.Frag) (fI D : Addr) : Sp := fun vs H Q _ => ∃ (a C : Addr) (v : V), vs = [.ref a, v] ∧ ErrC K fI D C ∧ H a = some (exo a C none) ∧
  ∀ dx, H dx = none → dx ≠ a → Q .non (upd (upd H dx (exd dx [("value", v)])) a (exo a C (some dx)))

theorem ini_ok {P : Program} {w : World} {K : PySem.W.Frag} {mg : Str → Option Value} {base : Heap} {CX : CXT} {fI D : Addr} {fd : FuncData} (T : IniT P K mg fI D fd) : FnOk P w K mg base CX 1 fI fd ["self", "value"] (spIni K fI D) := by
  constructor
  · rintro vs H Q E ⟨a, C, v, rfl, _⟩
    rfl
  rintro A fr s H ag us vs Q E room en bnd rel ⟨a, C, v, rfl, EC, ha, q⟩
  obtain ⟨ql, file, dV, kV, dc, pm, ct, oc, ccl, cl, an, od, cdd, cld, sl, ccs, csl, cda, cc, vs', tf, cdD, rfl, lk, hcd, hcode, hvs, hfile, hcell, hD⟩ := T.fn
  obtain ⟨ua, u, rfl, ra, ru⟩ := vals2 rel
  obtain rfl : ua = Value.ref a := ra
  obtain ⟨nm, qn, N, bs, bm, sn, sub, ab, col, dd, k0, k1, k2, k3, k5, hC, hbm⟩ := EC.ox.cls
  have stays : ∀ b o, base.get? b = some o → s.heap.get? b = some o := fun b o e => (en.bs b o e).1
  have inK : K.In s.heap := en.mod.kin.keeps stays
  obtain ⟨mb, b1, b2⟩ := en.mod.blt
  obtain ⟨t1, hoe⟩ := exo_at en.hok ha
  have hnk : K.lookup a = none := by
    cases z : K.lookup a with
    | none => rfl
    | some o =>
      have y := (en.bs a o (en.mod.kin a o z)).2
      rw [ha] at y
      cases y
  refine init_run inK room.depth (en.mod.nolimit.keeps stays) (en.mod.glob.keeps stays) T.su (b1.keeps stays) b2 lk hcd hcode hvs hfile T.tp hcell hD hC hbm EC.sub EC.sup T.th EC.ve EC.ox.sa EC.no hoe hnk bnd ?_
  intro s' dx t2 hos hgn k dn dne hx hn
  have hnd : H dx = none := en.hok.fresh dn
  have nd : ∀ {b : Addr} {o : Obj}, s.heap.get? b = some o → b ≠ dx := fun {b o} z => Nat.ne_of_lt (Nat.lt_of_lt_of_le (Heap.lt_size z) dn)
  have na : ∀ {b : Addr}, H b = none → b ≠ a := fun {b} n z => by
    rw [z, ha] at n
    cases n
  refine ⟨.non, upd (upd H dx (exd dx [("value", v)])) a (exo a C (some dx)), hos, by rw [hgn]; exact en.bare, ⟨?_, ?_, ?_, ?_, ?_, ?_, ?_⟩, ?_, rfl, q dx hnd dne⟩
  · exact fun b o z n _ _ => k b o (na n) z
  · exact fun b o z n _ _ => ⟨o.slots, k b o (na n) z⟩
  · intro b o z n _
    rw [upd_ne (na n), upd_ne (nd z)]
    exact n
  · intro b o z _
    by_cases hb : b = a
    · exact ⟨_, by rw [hb]; exact hx⟩
    · exact ⟨o, k b o hb z⟩
  · intro b xs z
    rw [upd_ne (at_ne ha z exo_tup), upd_ne (ne_of_none z hnd)]
    exact z
  · intro b o x z
    rw [upd_ne (at_ne ha z exo_frz), upd_ne (ne_of_none z hnd)]
    exact z
  · intro b ps z
    exact ⟨#[], by rw [upd_ne (at_ne ha z exo_tbl), upd_ne (ne_of_none z hnd), z]; simp⟩
  · intro b o z
    by_cases hb : b = a
    · subst hb
      rw [upd_same] at z
      cases z
      exact exo_ok hx
    rw [upd_ne hb] at z
    by_cases hd : b = dx
    · subst hd
      rw [upd_same] at z
      cases z
      exact exd_ok hn (relO_put (fs := []) ru fun g => True.intro)
    rw [upd_ne hd] at z
    refine (en.hok b o z).stay (fun c x hc y => k c x ?_ y) (fun c hc => ?_) (fun c xs hc => ?_)
    · rcases hc with hc | hc
      · rw [hc]; exact hb
      · exact at_ne ha hc exo_own
    · rw [upd_ne (at_ne ha hc exo_own), upd_ne (ne_of_none hc hnd)]
      exact hc
    · rw [upd_ne (at_ne ha hc exo_tup), upd_ne (ne_of_none hc hnd)]
      exact hc
end Tg
end
section
set_option Elab.async false
set_option linter.all false
set_option maxRecDepth 100000
set_option maxHeartbeats 4000000
/-! Tg, part F: rules for such errors: C(e) as a value, raise C(e), isinstance(err, ..), err.value. -/
namespace PySem.W
open PySem
section
variable {prog : Program} {w : World} {A : Around} {E : Value → Shared → Prop} {s : Shared} {K : Frag} {x D : Addr} {ox : Obj} {od : Option Obj}
/-- type(err), as isinstance asks for it, of an error that may have its own dict -/
theorem tg_classE {Q : Option Value → Shared → Prop} (c : L2.ExcC K D) (X : K.In s.heap) (I : InstAt s.heap x ox D od) (h : Q (some (.ref D)) { s with toks := s.toks + 1 }) :
    wpAny (model prog w) A (getAttr? (.ref x) "__class__") Q E s := by
  have found : findObj K D od "__class__" = some (.bind (.builtin "getset_descriptor.__get__") (.builtin "object.__class__")) := by
    obtain ⟨cd, hc, _⟩ := any_some c.hd
    unfold findObj
    rw [hc, Option.bind_some, c.ha, Option.bind_some]
    simp [c.hn, c.ht]
  obtain ⟨hp, g, d, t, os⟩ := s
  have la := I.type (M := model prog w)
  have lb := looks_findIn (M := model prog w) X c.hg
  have lc := looks_findIn (M := model prog w) X c.hk
  have ld := looks_find (M := model prog w) X I found
  have isx : Looks (model prog w) hp (isInstance (.ref x) (.type "BaseException")) true := la.andThen (looks_subIn X c.hs)
  have other : (onTheHeap (Value.ref D) && Value.builtin "BaseException.__getattribute__" == Value.builtin "object.__getattribute__") = false := by
    show (true && Value.builtin "BaseException.__getattribute__" == Value.builtin "object.__getattribute__") = false
    decide +kernel
  unfold getAttr? getAttrBy? getAttrBy
  refine wpAny_bind (wpAny_mkText (wpAny_bind (wpAny_attempt (wpAny_holding (wpAny_bind (la.at (wpAny_bind (lb.at ?_))))))))
  show wpAny _ _ (if (onTheHeap (Value.ref D) && Value.builtin "BaseException.__getattribute__" == Value.builtin "object.__getattribute__") = true then _ else _) _ _ _
  rw [other, if_neg Bool.false_ne_true]
  unfold getAttrByItsOwn hookBefore
  refine wpAny_bind ?_
  rw [if_pos (show onTheHeap (Value.ref D) = true from rfl)]
  refine lc.at (wpAny_bind (wpAny_attempt (wpAny_holding ?_)))
  unfold callGetattribute
  rw [if_neg (show ¬ ((false && onTheHeap (Value.builtin "BaseException.__getattribute__")) = true) from Bool.false_ne_true)]
  unfold boundAndCalled
  rw [PySem.F.excAttr_ValueError.ga.bind (.ref x)]
  refine wpAny_bind (wpAny_pure ?_)
  show wpAny _ _ (call (.builtin "BaseException.__getattribute__") [.ref x, .str "__class__" t]) _ _ _
  refine wpAny_call (codeAny_call_builtin PySem.F.excAttr_ValueError.ga.plain PySem.F.entry_bexc_ga ?_)
  refine @check_slot (model prog w) _ _ ⟨hp, g, d, t + 1, os⟩ "BaseException.__getattribute__" "BaseException" "__getattribute__" (.ref x) [.str "__class__" t] [] _ (by decide +kernel) (by decide +kernel) isx (PySem.F.args_bexc_ga (.ref x) (.str "__class__" t)) ?_
  unfold Builtin.«object.__getattribute__»
  refine wpAny_bind (wpAny_of_eq (a := ((Value.ref x : Value), [Value.str "__class__" t])) (by first | rfl | (simp only [slotArgs]; rfl)) ?_)
  refine wpAny_bind (wpAny_pure (wpAny_bind (la.at (wpAny_bind (ld.at ?_)))))
  show wpAny _ _ (holding [Value.builtin "object.__class__"] (call (.builtin "getset_descriptor.__get__") [.builtin "object.__class__", .ref x, .ref D]) >>= ret) _ _ _
  refine wpAny_bind (wpAny_holding (wpAny_call (class_get (s := ⟨hp, g, d, t + 1, os⟩) (ox := ox) (od := od) X I c.hm ?_)))
  refine wpAny_pure ?_
  show wpAny _ _ (handedOut (.ref D)) _ _ _
  rw [handedOut_of (v := .ref D) rfl]
  first
    | exact wpAny_pure (wpAny_pure h)
    | exact wpAny_pure h
    | exact wpAny_pure (wpAny_bind (wpAny_pure (wpAny_pure h)))
theorem tg_kit (c : L2.ExcC K D) : KitX K (.ref x) (.ref D) (fun h => ∃ ox od, InstAt h x ox D od) where
  ty := fun _ _ _ ⟨_, _, I⟩ => I.type
  it := fun _ _ X _ => by
    obtain ⟨cd, hc, _⟩ := any_some c.hd
    unfold clsIn at hc
    split at hc
    · rename_i c' d' cd' sl' ho
      intro A' Q' E' s' k q
      unfold isType loadHead
      exact wpAny_bind (wpAny_loadPart (k _ _ (X _ _ ho)) (wpAny_pure q))
    · cases hc
  ne := fun h tp dd its n sl X htp => by
    obtain ⟨cd, hc, _⟩ := any_some c.hd
    refine Bool.eq_false_iff.mpr fun q => ?_
    have e : D = tp := Value.ref.inj (beq_iff_eq.mp q)
    subst e
    unfold clsIn at hc
    split at hc
    · rename_i c' d' cd' sl' ho
      exact nomatch ((X _ _ ho).symm.trans htp)
    · cases hc
  ca := fun X ⟨_, _, I⟩ k => tg_classE c X I k
end
end PySem.W

namespace Tg
open PySem PySem.Spec PyProof.Rows L2

/-- at a: an error of the class at C, its dict at d -/
def exq (a C d : Addr) : HO := .ext fun h => ∃ (oe : Obj) (vs : Array Value), h.get? a = some oe ∧ Zc (.ref C) (some d) oe ∧ oe.data = .fields vs
theorem exq_ok {P : Program} {w : World} {H : Hp} {h : Heap} {a C d : Addr} {oe : Obj} {vs : Array Value} (e : h.get? a = some oe) (z : Zc (.ref C) (some d) oe) (hd : oe.data = .fields vs) : ObjOk P w H h a (exq a C d) :=
  ⟨⟨oe, vs, e, z, hd⟩, ⟨oe, e⟩, fun h1 h2 ⟨o1, v1, e1, z1, d1⟩ k => ⟨o1, v1, k _ e1, z1, d1⟩⟩
theorem exq_at {P : Program} {w : World} {H : Hp} {h : Heap} {a C d : Addr} (ok : HOk P w H h) (e : H a = some (exq a C d)) : ∃ (oe : Obj) (vs : Array Value), h.get? a = some oe ∧ Zc (.ref C) (some d) oe ∧ oe.data = .fields vs := by
  have x : ObjOk P w H h a (.ext fun h => ∃ (oe : Obj) (vs : Array Value), h.get? a = some oe ∧ Zc (.ref C) (some d) oe ∧ oe.data = .fields vs) := ok a _ e
  exact x.1
theorem exq_frz {a C d : Addr} {ob : Obj} {w : HO} : exq a C d ≠ .frz ob w := fun z => by
  have z' : HO.ext _ = HO.frz ob w := z
  cases z'
theorem exq_tup {a C d : Addr} {xs : List V} : exq a C d ≠ .tup xs := fun z => by
  have z' : HO.ext _ = HO.tup xs := z
  cases z'

/-- the error at a has the class at C and the value v -/
structure Err (H : Hp) (a C : Addr) (v : V) : Prop where
  ex : ∃ d, H a = some (exq a C d) ∧ H d = some (.xd [("value", v)])
theorem Err.keep {H H' : Hp} {a C : Addr} {v : V} (h : Err H a C v) (k : Same H H') : Err H' a C v := let ⟨d, e1, e2⟩ := h.ex; ⟨d, k _ _ e1, k _ _ e2⟩

section
variable {X : Cx}
/-- what is known of a thing is told otherwise -/
theorem inv_swap {pins : List (Addr × Obj)} {σ : L2.St} {H : Hp} {s : Shared} {a : Addr} {φ : Heap → Prop} {o : HO} (I : Inv X pins σ H s) (ha : H a = some (.ext φ)) (new : ObjOk X.prog X.w (upd H a o) s.heap a o) : Inv X pins σ (upd H a o) s := by
  obtain ⟨ob, e⟩ : ∃ ob, s.heap.get? a = some ob := by
    obtain ⟨_, q, _⟩ := (show ObjOk X.prog X.w H s.heap a (.ext φ) from I.hok a _ ha)
    exact q
  have J := I.write (t' := s.toks) (h' := s.heap) (x := a) (e := a) (o := o) (by rw [ha]; exact True.intro) (.inl rfl) (fun _ _ _ q => q) ⟨ob, e⟩ new
  exact J

/-- C(e) -/
def tErr (C : Addr) (te : TE) : TE := fun σ H Q => te σ H fun v H1 => ∀ a d, H1 a = none → H1 d = none → d ≠ a → Q (.ref a) (upd (upd H1 d (.xd [("value", v)])) a (exq a C d))
theorem pe_err {fI D C : Addr} {fd : FuncData} {x : Str} {e : Expr} {te : TE} {p pos : Pos} (EC : ErrC X.K fI D C) (T : IniT X.prog X.K X.mg fI D fd) (hr : Room 2 X.A) (hg : Gl X x) (hm : X.mg x = some (.ref C)) (hb : Binds X.K fd ["self", "value"] []) (he : PE X e te)
    (hdb : (x == ("__debug__" : Str)) = false := by decide) (hs : starEach [e] X.env = (false, eval e X.env) :: starEach [] X.env := by rfl) :
    PE X (.Call (.Name x p) [e] [] pos) (tErr C te) := by
  constructor
  intro pins s σ H Q I h
  obtain ⟨nm, qn, N, bs, bm, sn, sub, ab, col, dd, k0, k1, k2, k3, k5, hC, hbm⟩ := EC.ox.cls
  apply wpAny_Call_Name_kw
  apply ld_glob I hg hm _ hdb
  refine PySem.W.callWith_K (h₀ := X.base) I.ok.mod.kin EC.ox.kC ?_ hs rfl
  rw [hs]
  show wpAny _ _ (spliced ((false, eval e X.env) :: backTo pos (starEach [] X.env))) _ _ s
  refine Calls.spliced_cons (thn (he.run pins s σ H _ I h) ?_)
  rintro u s1 ⟨v, H1, I1, ru, q1⟩
  refine Calls.spliced_nil ⟨I1.kIn, ?_⟩
  show wpAny _ _ (call (.ref C) [u]) _ _ _
  obtain ⟨hp, g, dr, tk, os⟩ := s1
  have up : hp.objs.size ≤ hp.objs.size + 1 := Nat.le_succ _
  have na : H1 (hp.objs.size + 1) = none := I1.hok.fresh up
  have kk : ∀ b o, hp.get? b = some o → ((hp.push (PySem.W.kdv_tup [u])).push (PySem.HandSPX.excO C hp.objs.size)).get? b = some o := fun b o z => Heap.get?_push_of_some _ (Heap.get?_push_of_some _ z)
  have new : ((hp.push (PySem.W.kdv_tup [u])).push (PySem.HandSPX.excO C hp.objs.size)).get? (hp.objs.size + 1) = some (PySem.HandSPX.excO C hp.objs.size) := by heap_get
  have I2 : Inv X pins σ (upd H1 (hp.objs.size + 1) (exo (hp.objs.size + 1) C none)) ⟨(hp.push (PySem.W.kdv_tup [u])).push (PySem.HandSPX.excO C hp.objs.size), g, dr, tk, os⟩ :=
    I1.laid (t' := tk) (a := hp.objs.size + 1) (o := exo (hp.objs.size + 1) C none) (h' := (hp.push (PySem.W.kdv_tup [u])).push (PySem.HandSPX.excO C hp.objs.size)) kk up (exo_ok new)
  have r2 : Vals [V.ref (hp.objs.size + 1), v] [Value.ref (hp.objs.size + 1), u] := .cons rfl (.cons ru .nil)
  have bnd := hb _ [Value.ref (hp.objs.size + 1), u] I2.kIn rfl
  have ran := (ini_ok (P := X.prog) (w := X.w) (base := X.base) (CX := CX0) T).run (X.A.under (.builtin "type.__call__" ⟨[.ref C, u], []⟩)) X.stack _ _ ⟨[Value.ref (hp.objs.size + 1), u], []⟩ [Value.ref (hp.objs.size + 1), u] _
    (fun w H2 => w = .non ∧ ∃ dx, H2 = upd (upd (upd H1 (hp.objs.size + 1) (exo (hp.objs.size + 1) C none)) dx (exd dx [("value", v)])) (hp.objs.size + 1) (exo (hp.objs.size + 1) C (some dx)) ∧ H1 dx = none ∧ dx ≠ hp.objs.size + 1)
    (fun _ _ _ => False) (hr.make C [u] []) (I2.env0.make C [u] []) bnd r2
    ⟨hp.objs.size + 1, C, v, rfl, EC, upd_same, fun dx hdx ne => ⟨rfl, dx, rfl, by rw [upd_ne ne] at hdx; exact hdx, ne⟩⟩
  refine wpAny_call (PySem.HandSPX.call_own F.excBase_ValueError (fun Y => PySem.HandSPX.refsVE_contains Y bm hbm) (I1.kIn _ _ hC) (PySem.W.looks_findIn I1.kIn EC.ini) (fun self => PySem.W.bind_fn I1.kIn self T.ty) (by show 1 ≤ sizeLine; decide)
    (codeAny_mono ran fun r s' hq => ?_))
  match r, hq with
  | .error er, hq => exact False.elim hq
  | .ok .next, hq => exact False.elim hq
  | .ok .brk, hq => exact False.elim hq
  | .ok .cont, hq => exact False.elim hq
  | .ok (.ret w'), ⟨v', H2, os2, bare2, un2, hok2, rv, ev, dx, eH, hdx, ne⟩ =>
    subst ev
    refine ⟨rv, ?_⟩
    have I3 : Inv X pins σ H2 s' := I2.call' (ch := []) os2 un2 hok2 bare2 fun b z => absurd z List.not_mem_nil
    generalize hp.objs.size + 1 = a at *
    have ha : H2 a = some (exo a C (some dx)) := by rw [eH]; exact upd_same
    have hd : H2 dx = some (exd dx [("value", v)]) := by rw [eH, upd_ne ne]; exact upd_same
    obtain ⟨t0, oa⟩ := exo_at I3.hok ha
    obtain ⟨mA, ns, rel⟩ := exd_at I3.hok hd
    have I4 : Inv X pins σ (upd H2 a (exq a C dx)) s' := inv_swap I3 ha (exq_ok oa ⟨rfl, rfl⟩ rfl)
    have hd4 : (upd H2 a (exq a C dx)) dx = some (exd dx [("value", v)]) := by rw [upd_ne ne]; exact hd
    have I5 : Inv X pins σ (upd (upd H2 a (exq a C dx)) dx (.xd [("value", v)])) s' := inv_swap I4 hd4 ⟨mA, ns, rel⟩
    have eq : upd (upd H2 a (exq a C dx)) dx (.xd [("value", v)]) = upd (upd H1 dx (.xd [("value", v)])) a (exq a C dx) := by
      funext b
      by_cases h1 : b = a
      · subst h1
        rw [upd_ne (Ne.symm ne), upd_same, upd_same]
      · by_cases h2 : b = dx
        · subst h2
          rw [upd_same, upd_ne h1, upd_same]
        · rw [upd_ne h2, upd_ne h1, upd_ne h1, upd_ne h2, eH, upd_ne h1, upd_ne h2, upd_ne h1]
    rw [eq] at I5
    exact ⟨.ref a, _, I5, rfl, q1 a dx na hdx ne⟩
end
end Tg
end
section
set_option Elab.async false
set_option linter.all false
set_option maxRecDepth 100000
set_option maxHeartbeats 4000000
/-! Tg, part G: raise C(e); isinstance(err, ..); err.value. -/
namespace Tg
open PySem PySem.Spec PyProof.Rows L2
section
variable {X : Cx}
/-- a reading, widened -/
def tMo (t : TE) : TE := fun σ H Q => ∃ Q' : VK, t σ H Q' ∧ ∀ v H', Q' v H' → Q v H'
theorem pe_mo {e : Expr} {t : TE} (h : PE X e t) : PE X e (tMo t) := by
  constructor
  rintro pins s σ H Q I ⟨Q', q, imp⟩
  refine thn (h.run pins s σ H Q' I q) ?_
  rintro u s1 ⟨v, H1, I1, r, q1⟩
  exact ⟨v, H1, I1, r, imp v H1 q1⟩
theorem upd_back {H1 : Hp} {a dx : Addr} {o1 o2 o3 u : HO} (na : H1 a = none) (ne : dx ≠ a) : upd (L2.del (upd (upd (upd H1 a o1) dx o2) a o3) a) dx u = upd H1 dx u := by
  funext b
  by_cases h1 : b = dx
  · subst h1
    rw [upd_same, upd_same]
  · rw [upd_ne h1, upd_ne h1]
    by_cases h2 : b = a
    · subst h2
      rw [del_same, na]
    · rw [del_ne h2, upd_ne h2, upd_ne h1, upd_ne h2]
/-- C(e), to be raised -/
def tRz (C : Addr) (te : TE) : L2.St → Hp → XK → Prop := fun σ H Q => te σ H fun v H1 => ∀ d, H1 d = none → Q (.ref C) (some d) (upd H1 d (.xd [("value", v)]))
theorem pmk_err {fI D C : Addr} {fd : FuncData} {x : Str} {e : Expr} {te : TE} {p pos : Pos} (EC : ErrC X.K fI D C) (T : IniT X.prog X.K X.mg fI D fd) (hr : Room 2 X.A) (hg : Gl X x) (hm : X.mg x = some (.ref C)) (hb : Binds X.K fd ["self", "value"] []) (he : PE X e te)
    (hdb : (x == ("__debug__" : Str)) = false := by decide) (hs : starEach [e] X.env = (false, eval e X.env) :: starEach [] X.env := by rfl) : PMk X (.Call (.Name x p) [e] [] pos) (tRz C te) := by
  intro pins s σ H Q I h
  refine pmk_oex (CX := CX0) (dvs := []) (ds := []) EC.ox EC.ini T.ty (ini_ok T) hr hb .nil pass0 hg hm (pa_cons (pe_mo he) pa_nil hs) hdb hs rfl pins s σ H Q I ?_
  refine ⟨_, h, fun v H1 q => ⟨by show 1 ≤ 1000; decide, fun a na => ?_⟩⟩
  refine ⟨a, C, v, rfl, EC, upd_same, fun dx hdx ne => ⟨rfl, dx, [("value", v)], upd_same, ?_, ?_, ?_⟩⟩
  · rw [upd_ne ne, upd_same]
  · rw [upd_ne ne] at hdx
    exact hdx
  · rw [upd_ne ne] at hdx
    rw [upd_back na ne]
    exact q dx hdx
/-- raise C(e) -/
theorem ps_raiseE {W : WX} {fI D C : Addr} {fd : FuncData} {x : Str} {e : Expr} {te : TE} {p pos pos' : Pos} (hc : X.calm = true) (tk : Takes X W) (EC : ErrC X.K fI D C) (T : IniT X.prog X.K X.mg fI D fd) (hr : Room 2 X.A) (hg : Gl X x) (hm : X.mg x = some (.ref C))
    (hb : Binds X.K fd ["self", "value"] []) (he : PE X e te) (hdb : (x == ("__debug__" : Str)) = false := by decide) (hs : starEach [e] X.env = (false, eval e X.env) :: starEach [] X.env := by rfl) :
    PS X (.Raise (some (.Call (.Name x p) [e] [] pos)) none pos') (fun _ σ H => te σ H fun v H1 => ∀ d, H1 d = none → W (.ref C) (some d) σ (upd H1 d (.xd [("value", v)]))) :=
  ps_raise hc tk (pmk_err EC T hr hg hm hb he hdb hs)

theorem exq_inst {P : Program} {w : World} {H : Hp} {h : Heap} {a C d : Addr} {fs : List (Str × V)} (ok : HOk P w H h) (e : H a = some (exq a C d)) (ed : H d = some (.xd fs)) :
    ∃ (oe od : Obj) (mA : Str → Option Value), PySem.W.InstAt h a oe C (some od) ∧ (∀ name, PySem.W.lookIn name od = some (mA name)) ∧ ∀ f, RelO (fs.lookup f) (mA f) := by
  obtain ⟨oe, vs, e1, z, hd⟩ := exq_at ok e
  obtain ⟨mA, ns, rel⟩ := (show ObjOk P w H h d (.xd fs) from ok d _ ed)
  obtain ⟨od, ho, hl⟩ := lookIn_ns ns
  exact ⟨oe, od, mA, ⟨e1, z.1, by unfold PySem.W.notCls; rw [hd] <;> rfl, by rw [z.2]; exact ho⟩, hl, rel⟩

/-- isinstance(err, c) -/
def rIsErr (K : PySem.W.Frag) : List V → Hp → VK → Prop := fun xs H Q => ∃ (a C : Addr) (v c : V) (cv : Value) (b : Bool), xs = [.ref a, c] ∧ Err H a C v ∧ ExcC K C ∧ ClsV c cv ∧ PySem.W.kitOne K (.ref C) cv = some b ∧ Q (.bl b) H
theorem call_isErr : CallR X (.builtin "isinstance") (rIsErr X.K) := by
  rintro pins s σ H xs us Q I rel ⟨a, C, v, c, cv, b, rfl, er, xc, hcv, hk, q⟩
  obtain ⟨ua, uc, rfl, ra, rc⟩ := vals2 rel
  obtain rfl : ua = Value.ref a := ra
  obtain rfl := hcv.eq rc
  obtain ⟨d, e1, e2⟩ := er.ex
  obtain ⟨oe, od, mA, J, _, _⟩ := exq_inst I.hok e1 e2
  exact PySem.W.kia_one (PySem.W.tg_kit xc) I.kIn ⟨oe, some od, J⟩ hk (fun z => nomatch z) fun tk => ⟨.bl b, H, I.kept (t' := tk) fun _ _ z => z, rfl, q⟩

/-- err.value -/
def tVal (K : PySem.W.Frag) (te : TE) : TE := fun σ H Q => te σ H fun x H1 => ∃ (a C : Addr) (v : V), x = .ref a ∧ Err H1 a C v ∧ ExcC K C ∧ PySem.W.findIn K (.ref C) "value" = some none ∧ Q v H1
theorem pe_value {e : Expr} {te : TE} {pos : Pos} (he : PE X e te) (hb : attributeBase e "value" X.env (eval e X.env) = eval e X.env := by rfl) : PE X (.Attribute e "value" pos) (tVal X.K te) := by
  constructor
  intro pins s σ H Q I h
  refine attr_of hb (thn (he.run pins s σ H _ I h) ?_)
  rintro u s1 ⟨x, H1, I1, rx, a, C, v, rfl, er, xc, no, q⟩
  obtain rfl : u = Value.ref a := rx
  obtain ⟨d, e1, e2⟩ := er.ex
  obtain ⟨oe, od, mA, J, hl, rel⟩ := exq_inst I1.hok e1 e2
  obtain ⟨w, hw, rw'⟩ := RelO.some_of (v := v) (o := mA "value") (by
    have z := rel "value"
    rw [show ([("value", v)] : List (Str × V)).lookup (Str.ofString "value") = some v from rfl] at z
    exact z)
  exact HandSPX.exc_get I1.kIn J xc.hg xc.hk xc.hs (PySem.W.findObj_own xc.hd no rfl (by rw [hl, hw])) (handed_of rw') ⟨v, H1, I1.tok _, rw', q⟩
end
end Tg
end
section
set_option Elab.async false
set_option linter.all false
set_option maxRecDepth 100000
set_option maxHeartbeats 4000000
/-! Tg, part H: data laid anew (displays), as readings ask for it. -/
namespace Tg
open PySem PySem.Spec PyProof.Rows L2

theorem len_ok {α : Type} {xs : List α} (h : xs.length ≤ 1000) : xs.length ≤ sizeLine := by rw [sizeLine_eq]; omega
theorem same_new {H : Hp} {p : Addr} {o : HO} (n : H p = none) : Same H (upd H p o) := fun b u e => by
  rw [upd_ne (ne_of_none e n)]
  exact e
theorem same_upd2 {H : Hp} {p : Addr} {o u : HO} (n : H p = none) : Same H (upd (upd H p o) p u) := fun b x e => by
  rw [upd_ne (ne_of_none e n), upd_ne (ne_of_none e n)]
  exact e
theorem Rp.same {H H' : Hp} {d : PyData} {v : V} (r : Rp H d v) (s : Same H H') : Rp H' d v := r.keep (Kp.same s)
theorem RpL.same {H H' : Hp} {ds : List PyData} {xs : List V} (r : RpL H ds xs) (s : Same H H') : RpL H' ds xs := RpL.keep (Kp.same s) ds xs r
theorem RpL.nil {H : Hp} : RpL H [] [] := by simp only [RpL]
theorem RpL.cons {H : Hp} {d : PyData} {v : V} {ds : List PyData} {xs : List V} (r : Rp H d v) (rs : RpL H ds xs) : RpL H (d :: ds) (v :: xs) := by
  simp only [RpL]
  exact ⟨v, xs, rfl, r, rs⟩
theorem Rp.non {H : Hp} : Rp H .none .non := by simp only [Rp]
theorem Rp.bl {H : Hp} {b : Bool} : Rp H (.bool b) (.bl b) := by simp only [Rp]
theorem Rp.int {H : Hp} {i : Int} : Rp H (.int i) (.int i) := by simp only [Rp]
theorem Rp.str {H : Hp} {x : Str} : Rp H (.str x) (.str x) := by simp only [Rp]
theorem Rp.tup {H : Hp} {a : Addr} {ds : List PyData} {xs : List V} (h : H a = some (.tup xs)) (r : RpL H ds xs) : Rp H (.tuple ds) (.ref a) := by
  simp only [Rp]
  exact ⟨a, xs, rfl, h, r⟩
theorem Rp.lst {H : Hp} {a : Addr} {o : Obj} {ds : List PyData} {xs : List V} (h : H a = some (.frz o (.lst xs))) (r : RpL H ds xs) : Rp H (.list ds) (.ref a) := by
  simp only [Rp]
  exact ⟨a, o, xs, rfl, h, r⟩
theorem Rp.dct {H : Hp} {a : Addr} {o : Obj} {kds : List (PyData × PyData)} {kvs : List (Key × V)} (h : H a = some (.frz o (.dK kvs))) (r : RpD H kds kvs) : Rp H (.dict kds) (.ref a) := by
  simp only [Rp]
  exact .inl ⟨a, o, kvs, rfl, h, r⟩
theorem RpD.nil {H : Hp} : RpD H [] [] := by simp only [RpD]
theorem RpD.cons {H : Hp} {k : Key} {d : PyData} {v : V} {kds : List (PyData × PyData)} {kvs : List (Key × V)} (r : Rp H d v) (rs : RpD H kds kvs) : RpD H ((kD k, d) :: kds) ((k, v) :: kvs) := by
  simp only [RpD]
  exact ⟨k, v, kvs, rfl, rfl, r, rs⟩

/-- a tuple -/
theorem g_tup {H : Hp} {p : Addr} {xs : List V} {ds : List PyData} (n : H p = none) (r : RpL H ds xs) : ∃ H1, upd H p (.tup xs) = H1 ∧ Same H H1 ∧ Rp H1 (.tuple ds) (.ref p) :=
  ⟨_, rfl, same_new n, Rp.tup upd_same (r.same (same_new n))⟩
/-- a list that is locked -/
theorem g_lst {H : Hp} {p : Addr} {o : Obj} {xs : List V} {ds : List PyData} (n : H p = none) (r : RpL H ds xs) : ∃ H1, upd (upd H p (.lst xs)) p (.frz o (.lst xs)) = H1 ∧ Same H H1 ∧ Rp H1 (.list ds) (.ref p) :=
  ⟨_, rfl, same_upd2 n, Rp.lst upd_same (r.same (same_upd2 n))⟩
/-- an empty dict that is locked -/
theorem g_dct0 {H : Hp} {p : Addr} {o : Obj} (n : H p = none) : ∃ H1, upd (upd H p (.dK [])) p (.frz o (.dK [])) = H1 ∧ Same H H1 ∧ Rp H1 (.dict []) (.ref p) :=
  ⟨_, rfl, same_upd2 n, Rp.dct upd_same RpD.nil⟩
/-- a list of the moment -/
theorem g_mut {H : Hp} {p : Addr} {xs : List V} (n : H p = none) : ∃ H1, upd H p (.lst xs) = H1 ∧ Same H H1 ∧ H1 p = some (.lst xs) := ⟨_, rfl, same_new n, upd_same⟩
/-- a dict of one pair that is locked; the value's reading led from the empty dict to H2 -/
theorem g_dct1 {H H2 : Hp} {p : Addr} {o : Obj} {k : Key} {v : V} {d : PyData} (n : H p = none) (s : Same (upd H p (.dK [])) H2) (r : Rp H2 d v) :
    ∃ H1, upd (upd H2 p (.dK (mergeK [] [(k, v)]))) p (.frz o (.dK (mergeK [] [(k, v)]))) = H1 ∧ Same H H1 ∧ Rp H1 (.dict [(kD k, d)]) (.ref p) := by
  have hp : H2 p = some (.dK []) := s p _ upd_same
  refine ⟨_, rfl, fun b x e => ?_, ?_⟩
  · have ne := ne_of_none e n
    rw [upd_ne ne, upd_ne ne]
    exact s b x (by rw [upd_ne ne]; exact e)
  · have kp : Kp H2 (upd (upd H2 p (.dK (mergeK [] [(k, v)]))) p (.frz o (.dK (mergeK [] [(k, v)])))) := by
      rw [upd_upd]
      exact Kp.put hp (fun _ _ z => nomatch z) (fun _ z => nomatch z)
    exact Rp.dct (kvs := [(k, v)]) upd_same (RpD.cons (r.keep kp) RpD.nil)
end Tg
namespace Tg
open PySem PySem.Spec PyProof.Rows L2
/-- repr(e), the room told by a number -/
def rReprN (n : Nat) : List V → Hp → VK → Prop := fun xs H Q => ∃ (d : PyData) (v : V), xs = [v] ∧ Rp H d v ∧ d.showable = true ∧ d.shown.length ≤ sizeLine ∧ n + d.depth + 2 < cLine ∧ Q (.str d.shown) H
theorem call_reprN {X : Cx} {n : Nat} (hg : X.A.guards = some []) (hn : X.A.units ≤ n) : CallR X (.builtin "repr") (rReprN n) := by
  rintro pins s σ H xs us Q I rel ⟨d, v, e, r, hs, hz, hu, q⟩
  exact call_reprD hg pins s σ H xs us Q I rel ⟨d, v, e, r, hs, hz, by omega, q⟩
theorem room_units {k : Nat} {A : Around} (hr : Room k A) : ∃ U, A.units ≤ U ∧ U + 200 < cLine := ⟨_, Nat.le_refl _, by have := hr.un; omega⟩
end Tg
end
section
set_option Elab.async false
set_option linter.all false
set_option maxRecDepth 100000
set_option maxHeartbeats 4000000
/-! Tg, part I: isinstance of data; the dict {None: 1}: its display, its pairs. -/
namespace Tg
open PySem PySem.Spec PyProof.Rows L2

/-- the type of data -/
def tyD : PyData → Value
  | .none => .type "NoneType"
  | .bool _ => .type "bool"
  | .int _ => .type "int"
  | .str _ => .type "str"
  | .list _ => .type "list"
  | .tuple _ => .type "tuple"
  | .dict _ => .type "dict"
section
variable {X : Cx} {pins : List (Addr × Obj)} {σ : L2.St} {H : Hp} {s : Shared}
theorem kit_rp {x : V} {u : Value} {d : PyData} (I : Inv X pins σ H s) (rx : RelV x u) (r : Rp H d x) : ∃ P : Heap → Prop, PySem.W.KitX X.K u (tyD d) P ∧ P s.heap ∧ u ≠ .builtin "__main__.__loader__#opaque" := by
  cases d with
  | none => simp only [Rp] at r; subst r; exact kit_of I rx (.base .non)
  | bool b => simp only [Rp] at r; subst r; exact kit_of I rx (.base (.bl b))
  | int i => simp only [Rp] at r; subst r; exact kit_of I rx (.base (.int i))
  | str z => simp only [Rp] at r; subst r; exact kit_of I rx (.base (.str z))
  | list ds =>
    simp only [Rp] at r
    obtain ⟨a, o, xs, rfl, ha, _⟩ := r
    exact kit_of I rx (.base (.frz ha))
  | tuple ds =>
    simp only [Rp] at r
    obtain ⟨a, xs, rfl, ha, _⟩ := r
    exact kit_of I rx (.base (.tup ha))
  | dict kds =>
    simp only [Rp] at r
    rcases r with ⟨a, o, kvs, rfl, ha, _⟩ | ⟨rfl, a, o, rfl, ha, no, _⟩
    · exact kit_of I rx (.fDict ha)
    · cases (show u = Value.ref a from rx)
      obtain ⟨e1, e2, _⟩ := non_at I.hok ha no
      exact ⟨_, PySem.W.kitx_dict, ⟨o, e1, e2⟩, fun z => nomatch z⟩
end
section
variable {X : Cx}
/-- isinstance(data, c) -/
def rIsD (K : PySem.W.Frag) : List V → Hp → VK → Prop := fun xs H Q => ∃ (x c : V) (d : PyData) (u : Value) (b : Bool), xs = [x, c] ∧ ClsV c u ∧ Rp H d x ∧ PySem.W.kitOne K (tyD d) u = some b ∧ Q (.bl b) H
theorem call_isD : CallR X (.builtin "isinstance") (rIsD X.K) := by
  intro pins s σ H xs us Q I r h
  obtain ⟨x, c, d, u, b, rfl, k, ty, e, q⟩ := h
  obtain ⟨u1, u2, rfl, r1, r2⟩ := vals2 r
  have e2 := k.eq r2
  subst e2
  obtain ⟨P, Z, p, hx⟩ := kit_rp I r1 ty
  exact PySem.W.kia_one Z I.kIn p e hx fun tk => ⟨.bl b, H, I.tok tk, rfl, q⟩
/-- isinstance(data, (c1, c2, ..)) -/
def rIsDT (K : PySem.W.Frag) : List V → Hp → VK → Prop := fun xs H Q => ∃ (x : V) (tp : Addr) (cs : List V) (d : PyData) (us : List Value) (b : Bool), xs = [x, .ref tp] ∧ H tp = some (.tup cs) ∧ Paired ClsV cs us ∧ Rp H d x ∧ PySem.W.kitAny K (tyD d) us = some b ∧ Q (.bl b) H
theorem call_isDT : CallR X (.builtin "isinstance") (rIsDT X.K) := by
  intro pins s σ H xs us Q I r h
  obtain ⟨x, tp, cs, d, ws, b, rfl, hT, k, ty, e, q⟩ := h
  obtain ⟨u1, u2, rfl, r1, r2⟩ := vals2 r
  cases (show u2 = Value.ref tp from r2)
  obtain ⟨P, Z, p, hx⟩ := kit_rp I r1 ty
  obtain ⟨_, its, rv, o, h1, h2, n, h3⟩ := (show ObjOk X.prog X.w H s.heap tp (.tup cs) from I.hok tp _ hT)
  have e3 := ClsV.all k rv
  subst e3
  obtain ⟨oc, od, dt, sl⟩ := o
  simp only at h2 h3
  subst h2 h3
  exact PySem.W.kia_tup Z I.kIn p h1 e hx fun tk => ⟨.bl b, H, I.tok tk, rfl, q⟩

/-! ### {None: 1} -/
def tNone1 (trs : List (TE × TE)) : TE := fun σ H Q => ∀ p, H p = none → tPairs trs σ (upd H p (.dK [])) fun ps H2 => H2 p = some (.dK []) ∧ ps = [(.non, .int 1)] ∧ ∀ o, NonO o → (p == sysModules) = false → Q (.ref p) (upd H2 p (.frz o (NDh p o)))
theorem pe_none1 {pos : Pos} {keys : List (Option Expr)} {values : List Expr} {trs : List (TE × TE)} (h : PPs X pos keys values trs) (hall : keys.all (·.isSome) = true) (hl : keys.length = values.length) (h0 : keys ≠ [])
    (h15 : keys.length ≤ 15) : PE X (.Dict keys values pos) (tNone1 trs) := by
  refine ⟨fun pins s σ H Q I q => ?_⟩
  have hn := I.hok.fresh (Nat.le_refl s.heap.objs.size)
  have I1 := I.laid (a := s.heap.objs.size) (o := .dK []) (h' := s.heap.push { cls := .type "dict", data := .dict #[] }) (t' := s.toks) (fun _ _ q => Heap.get?_push_of_some _ q) (Nat.le_refl _) (dk_empty s.heap I.big)
  refine wpAny_Dict_walk (knd := leafKind X.prog X.w) hall hl h0 h15 (thn (h.run pins _ σ _ _ I1 (q _ hn)) fun ws s2 ⟨ps, H2, I2, rel, e, ep, q2⟩ => ?_)
  subst ep
  obtain ⟨z, hd, vs0, r0, dd⟩ := dk_of I2.hok e
  cases r0
  cases rel with
  | @cons _ w1 _ ws1 r1 rr =>
    cases rr
    obtain ⟨k1, v1⟩ := w1
    obtain ⟨r1, r2⟩ := r1
    cases (show k1 = Value.none from r1)
    obtain ⟨t, rfl⟩ := (show ∃ t, v1 = Value.int 1 t from r2)
    have d0 : s2.heap.DictOf (leafKind X.prog X.w) s.heap.objs.size [] := by
      obtain ⟨o, es, ep, a1, a2, a3, _, a5, _⟩ := dd
      cases hes : es.toList with
      | nil =>
        have ee : es = #[] := Array.toList_inj.mp (by rw [hes])
        subst ee
        exact ⟨o, #[], ep, a1, a2, a3, fun e he => absurd he (by simp), .nil, List.nodup_nil⟩
      | cons x y => rw [hes] at a5; cases a5
    refine ⟨[(Leaf.none, .int 1 t)], ⟨rfl, rfl, True.intro⟩, d0, fun h' dd' hs => ?_⟩
    obtain ⟨o, es, ep, a1, a2, a3, a4, a5, _⟩ := dd'
    have no : NonO o := by
      cases hes : es.toList with
      | nil => rw [hes] at a5; cases a5
      | cons x y =>
        rw [hes] at a5
        cases a5 with
        | cons p1 p2 p3 =>
          cases p3
          obtain ⟨k, k1, k2⟩ := a4 x (by rw [← Array.mem_toList_iff, hes]; exact List.mem_singleton.mpr rfl)
          obtain ⟨hx, kx, vx⟩ := x
          simp only at p1 p2 k1 k2
          subst p2
          have kn : kx = Value.none := by
            cases kx <;> first | rfl | cases p1
          subst kn
          have kl : k = Leaf.none := by
            cases k with
            | none => rfl
            | num i => cases k1
            | text z => cases k1
          subst kl
          refine ⟨a2, ep, t, ?_⟩
          rw [a3]
          have ee : es = #[⟨hx, .none, .int 1 t⟩] := Array.toList_inj.mp (by rw [hes])
          rw [ee, k2]
          rfl
    refine ⟨.ref s.heap.objs.size, _, ?_, rfl, q2 o no hd⟩
    exact d_write I2 (by rw [e]; exact True.intro) hs ⟨o, a1⟩ ⟨a1, a1, ⟨o, a1⟩, fun h1 h2 e1 st => st _ e1⟩
end
end Tg
end
section
set_option Elab.async false
set_option linter.all false
set_option maxRecDepth 100000
set_option maxHeartbeats 4000000
/-! Tg, part J: the pairs of a dict that is data. -/
namespace Tg
open PySem PySem.Spec PyProof.Rows L2
/-- the one pair of {None: 1}, a new tuple -/
def ItN (d : Addr) (o : Obj) : It :=
  ⟨fun i H => (H d = some (.frz o (NDh d o)) ∧ NonO o ∧ (d == sysModules) = false) ∧ i < 1, fun i H x H' => ∃ T, x = .ref T ∧ H T = none ∧ H' = upd H T (.tup [.non, .int 1]), fun i H => (H d = some (.frz o (NDh d o)) ∧ NonO o ∧ (d == sysModules) = false) ∧ 1 ≤ i⟩
theorem walk_itemsN {d : Addr} {o : Obj} : Walk (ItN d o) 1 (fun H => H d = some (.frz o (NDh d o)) ∧ NonO o ∧ (d == sysModules) = false) (fun i H x H' => ∃ T, x = .ref T ∧ H T = none ∧ H' = upd H T (.tup [.non, .int 1])) :=
  ⟨fun _ _ hi q => ⟨q, hi⟩, fun _ q => ⟨q, Nat.le_refl _⟩, fun _ _ _ _ _ _ y => y⟩
section
variable {X : Cx} {pins : List (Addr × Obj)} {σ : L2.St} {H : Hp} {s : Shared}
theorem non_dict {P : Program} {w : World} {h : Heap} {d : Addr} {o : Obj} {ep : Nat} {t : Tok} (e : h.get? d = some o) (x : o.ExactDict) (dd : o.data = .dict #[⟨hNone, .none, .int 1 t⟩] ep) : h.DictAt (leafKind P w) d [(Leaf.none, .int 1 t)] ep :=
  ⟨o, _, e, x, dd, fun en he => by
    have q : en = ⟨hNone, .none, .int 1 t⟩ := by simpa using he
    subst q
    exact ⟨Leaf.none, rfl, rfl⟩, .cons rfl rfl .nil, by simp⟩
end
section
variable {P : Program} {w : World} {K : PySem.W.Frag} {d : Addr} {o : Obj} {ep : Nat} {t : Tok}
theorem turn_itemsN {elts : List Expr} {kk : Nat} {tpos : Pos} (it : Addr) (hod : o.data = .dict #[⟨hNone, .none, .int 1 t⟩] ep) :
    Turn P w K (.Tuple elts kk tpos) (ItN d o) [it] it (fun i h => ∃ ok ov, IsItemIter h it d i 1 ep ok ov) where
  mem := by simp
  obj := fun i h st b hb => by
    have e : b = it := by simpa using hb
    subst e
    obtain ⟨ok, ov, e⟩ := st
    exact ⟨_, e, fun v z => nomatch z⟩
  keep := fun i h h' st k => let ⟨ok, ov, e⟩ := st; ⟨ok, ov, k it (by simp) _ e⟩
  item := by
    intro X hP hw hK hc i pins s σ H E I hf st hg
    subst hP hw hK
    obtain ⟨⟨hd, no, sm⟩, hi⟩ := hg
    obtain ⟨e1, _⟩ := I.hok d _ hd
    have hm := non_dict (P := X.prog) (w := X.w) e1 no.1 hod
    have hi0 : i = 0 := by omega
    subst hi0
    obtain ⟨ok, ov, he⟩ := st
    have hlt : it < s.heap.objs.size := Heap.lt_size he
    refine wpAny_pyNext_items_item (kvs := [(Leaf.none, .int 1 t)]) he hm rfl fun key h' hkey ho hT hz hk => ?_
    have kn : key = Value.none := by
      cases key <;> first | rfl | cases hkey
    subst kn
    refine ⟨_, rfl, wpAny_letOwnedTupleGo_items (s := { s with heap := h' }) ho fun h'' he' sb => ?_⟩
    have hT2 : h''.get? s.heap.objs.size = some { cls := .type "tuple", data := .seq #[.none, .int 1 t] } := (sb.2 _ (Nat.ne_of_gt hlt)).trans hT
    have new : ObjOk X.prog X.w (upd H s.heap.objs.size (.tup [.non, .int 1])) h'' s.heap.objs.size (.tup [.non, .int 1]) :=
      ⟨by show 2 ≤ sizeLine; decide, [.none, .int 1 t], .cons rfl (.cons ⟨_, rfl⟩ .nil), ⟨_, hT2, rfl, _, rfl⟩⟩
    have I1 : Inv X pins σ (upd H s.heap.objs.size (.tup [.non, .int 1])) { s with heap := h'' } :=
      I.turnedNew (t' := s.toks) (ch := [it]) (fun b ob hb e => (sb.2 b (by simpa using hb)).trans (hk b ob (by simpa using hb) e)) hf (Nat.le_refl _) new
    refine ⟨.ref s.heap.objs.size, _, I1, rfl, ⟨_, rfl, I.hok.fresh (Nat.le_refl _), rfl⟩, ⟨.none, .int 1 t, he'⟩, fun b hb => ?_⟩
    have e : b = it := by simpa using hb
    rw [e, upd_ne (Nat.ne_of_lt hlt)]
    exact (hf it (by simp)).1
  done := by
    intro X hP hw hK hc i pins s σ H E I hf st hg
    subst hP hw hK
    obtain ⟨⟨hd, no, sm⟩, hi⟩ := hg
    obtain ⟨f0, f1, f2, f3, f4, f5⟩ := hf it (by simp)
    obtain ⟨e1, _⟩ := I.hok d _ hd
    have hm := non_dict (P := X.prog) (w := X.w) e1 no.1 hod
    obtain ⟨ok, ov, he⟩ := st
    exact wpAny_pyNext_items_end (kvs := [(Leaf.none, .int 1 t)]) (I.ok.hd hc) he hm (List.getElem?_eq_none (by simpa using hi)) fun h' eb => ⟨rfl, I.turned (t' := s.toks) (fun b ob hb e => eb b ob hb e) f0 f1 f3 f4 f5⟩
  self := fun A i s Q E st h => let ⟨_, _, e⟩ := st; PySem.W.kcp_self e h
end
section
variable {X : Cx} {e : Expr} {td : TE} {apos cpos : Pos}
/-- d.items() of a dict that is data -/
def iItemsN (td : TE) : TI := fun σ H R => td σ H fun x H1 => ∃ d o, x = .ref d ∧ ((∃ kvs, H1 d = some (.frz o (.dK kvs)) ∧ R (Iti d o kvs) H1) ∨ (H1 d = some (.frz o (NDh d o)) ∧ NonO o ∧ (d == sysModules) = false ∧ R (ItN d o) H1))
theorem pi_itemsN {elts : List Expr} {kk : Nat} {tpos : Pos} (he : PE X e td) (hbase : attributeBase e "items" X.env (eval e X.env) = eval e X.env := by rfl) (hline : (apos.endLine == cpos.line) = true := by rfl) :
    PI X (.Tuple elts kk tpos) (.Call (.Attribute e "items" apos) [] [] cpos) (iItemsN td) := by
  refine ⟨fun pins s σ H R I h => ?_⟩
  refine wpAny_Call_method (T := "dict") (id := "dict.items") hbase rfl hline F.plainAttrs_dict F.slot_dict_items F.type_dict_items (thn (he.run pins s σ H _ I h) fun u s1 ⟨x, H1, I1, rx, d, o, ex, hh⟩ => ?_)
  subst ex
  obtain rfl : u = Value.ref d := rx
  have I2 : Inv X pins σ H1 { s1 with heap := s1.heap.push { cls := .type "dict_items", data := .fields #[.ref d] } } := I1.kept (t' := s1.toks) fun b ob q => Heap.get?_push_of_some _ q
  rcases hh with ⟨kvs, hd, q⟩ | ⟨hd, no, sm, q⟩
  · obtain ⟨hs, hgd, hx, es, ep, vs, hdt, hsz, kv, hm⟩ := I1.frzK hd
    have hl : kvs.length = vs.length := Paired.length kv
    refine ⟨hm.dictOf.typeIs, hm.dictOf.mapOf.noDict, ?_⟩
    have fin : wpAny (model X.prog X.w) X.A (pyIter (.ref s1.heap.objs.size)) (PIE X pins σ (.Tuple elts kk tpos) R) X.xe { s1 with heap := s1.heap.push { cls := .type "dict_items", data := .fields #[.ref d] } } := by
      refine wpAny_pyIter_items (d := d) (knd := mixKind X.prog X.w) ⟨_, Heap.get?_push_size _ rfl, rfl, rfl⟩ (hm.push _) (pi_one (tk := s1.toks) I2 _ (turn_items _ hdt) ⟨.none, .none, ?_⟩ q)
      rw [hl]
      exact Heap.get?_push_size _ rfl
    show wpAny _ _ (callWith cpos (.builtin "dict.items") [.ref d] [] []) _ X.xe s1
    exact method_meetsIn F.slot_dict_items F.entry_dict_items rfl (PySem.evalArgs_none ⟨rfl, hm.dictOf.typeIs, F.args_dict_items_1 _, _, meets_dict_items (mixKind X.prog X.w) d hs, ⟨vs, hm.dictOf⟩, fin⟩)
  · obtain ⟨e1, _⟩ := I1.hok d _ hd
    obtain ⟨x, ep, t, dd⟩ := id no
    have hm := non_dict (P := X.prog) (w := X.w) e1 x dd
    refine ⟨hm.dictOf.typeIs, hm.dictOf.mapOf.noDict, ?_⟩
    have fin : wpAny (model X.prog X.w) X.A (pyIter (.ref s1.heap.objs.size)) (PIE X pins σ (.Tuple elts kk tpos) R) X.xe { s1 with heap := s1.heap.push { cls := .type "dict_items", data := .fields #[.ref d] } } := by
      refine wpAny_pyIter_items (d := d) (knd := leafKind X.prog X.w) ⟨_, Heap.get?_push_size _ rfl, rfl, rfl⟩ (hm.push _) (pi_one (tk := s1.toks) I2 _ (turn_itemsN _ dd) ⟨.none, .none, ?_⟩ q)
      exact Heap.get?_push_size _ rfl
    show wpAny _ _ (callWith cpos (.builtin "dict.items") [.ref d] [] []) _ X.xe s1
    exact method_meetsIn F.slot_dict_items F.entry_dict_items rfl (PySem.evalArgs_none ⟨rfl, hm.dictOf.typeIs, F.args_dict_items_1 _, _, meets_dict_items (leafKind X.prog X.w) d sm, ⟨_, hm.dictOf⟩, fin⟩)
end
end Tg
end
section
set_option Elab.async false
set_option linter.all false
set_option maxRecDepth 100000
set_option maxHeartbeats 4000000
/-! Tg, part K: an error that was caught and is kept. -/
namespace Tg
open PySem PySem.Spec PyProof.Rows L2
section
variable {X : Cx} {pins : List (Addr × Obj)} {σ : L2.St} {H : Hp} {s : Shared}
/-- an error that came since the def was entered is known from now on -/
theorem inv_track (I : Inv X pins σ H s) {a C dd : Addr} {oe : Obj} {vs : Array Value} (e : s.heap.get? a = some oe) (z : Zc (.ref C) (some dd) oe) (hd : oe.data = .fields vs) (na : H a = none) (n0 : X.s_0.heap.get? a = none) (nL : a ≠ X.env.locals)
    (np : ∀ p ∈ X.pn ++ pins, p.1 ≠ a) : Inv X pins σ (upd H a (exq a C dd)) s := by
  have st : ∀ b u, H b = some u → upd H a (exq a C dd) b = some u := fun b u q => by
    rw [upd_ne (ne_of_none q na)]
    exact q
  refine ⟨I.ok, I.os, I.bare, ⟨I.base.keep, I.base.slot, fun b o q n hx => ?_, I.base.there, fun b xs q => st _ _ (I.base.tups b xs q), fun b o u q => st _ _ (I.base.frzs b o u q), fun b ps q => ?_⟩, I.loc, I.cell, ?_, fun x c q => ?_, fun p hp => ?_, fun b u q => ?_, I.len⟩
  · have nb : b ≠ a := fun q2 => by
      rw [q2, n0] at q
      cases q
    rw [upd_ne nb]
    exact I.base.free b o q n hx
  · obtain ⟨more, hm⟩ := I.base.tbls b ps q
    exact ⟨more, st _ _ hm⟩
  · rw [upd_ne nL.symm]
    exact I.free
  · have nc : c ≠ a := fun q2 => by
      obtain ⟨v, o, ho, hv⟩ := I.cell x c q
      rw [q2, e] at ho
      cases ho
      rw [hd] at hv
      cases hv
    rw [upd_ne nc]
    exact I.freeC x c q
  · obtain ⟨h1, h2, h3⟩ := I.pin p hp
    refine ⟨h1, ?_, h3⟩
    rw [upd_ne (np p hp)]
    exact h2
  · by_cases hb : b = a
    · rw [hb, upd_same] at q
      cases q
      rw [hb]
      exact exq_ok e z hd
    · rw [upd_ne hb] at q
      exact (I.hok b u q).stay (fun _ _ _ r => r) (fun d r => st _ _ r) fun d xs r => st _ _ r
end
/-- what an except clause that keeps the error makes of an exception -/
def wKeep (K : PySem.W.Frag) (c : Value) (m i : Nat) (ts : Addr → Value → Option Addr → TS) (Wout : WX) (D : Ends) : WX := fun cls d σ H => σ.length = m →
  ∃ b, PySem.W.exmOne K cls c = some b ∧ (b = true → ∃ C dd, cls = .ref C ∧ d = some dd ∧ ∀ a, H a = none → ts a cls d { nx := fun σ' H' => D.nx (σ'.set i none) (upd H' a (exq a C dd)), rt := fun _ _ => False, bk := fun _ _ => False, ct := fun _ _ => False } (σ.set i (some (.ref a))) H) ∧
    (b = false → Wout cls d σ H)
section
variable {X : Cx} {x n : Str} {c : Value} {i : Nat} {body suite : List Stmt} {b₀ : Stmt} {np pos pos' : Pos} {tb : WX → TS} {ts : Addr → Value → Option Addr → TS}
/-- try: body / except x as n: suite, where the suite runs to its end and the error stays known -/
theorem ps_try_keep (hs : X.stack = X.env :: X.outer) (hf : X.env.frame = some X.env.locals) (hN : X.N.Nodup) (hi : X.N[i]? = some n) (hln : X.env.kindOf n = some .local) (hc : Names X x c) (hex : X.ex = [])
    (hb : ∀ (W : WX) (pn : List (Addr × Obj)) (xe : Value → Shared → Prop), Takes (X.tr pn xe) W → PassesOwn (model X.prog X.w) X.A X.env xe → PSs (X.tr pn xe) body (tb W))
    (hsu : ∀ (a : Addr) (oe : Obj) (cls : Value) (d : Option Addr) (pn : List (Addr × Obj)), Zc cls d oe → (∃ vs, oe.data = .fields vs) → PSs (X.suite a ((a, oe) :: pn)) (b₀ :: suite) (ts a cls d)) :
    PS X (.Try body [.ExceptHandler (some (.Name x np)) (some n) (b₀ :: suite) pos'] [] [] pos) (fun D σ H => tb (wKeep X.K c X.N.length i ts (fun _ _ _ _ => False) D) D σ H) := by
  refine ⟨fun pins s σ H D I h => ?_⟩
  have ok := I.ok
  have hfr : X.A.frames = some (X.env :: X.outer) := by rw [ok.frames, hs]
  refine wpAny_Try_except ?_
  refine wpAny_mono ((hb (wKeep X.K c X.N.length i ts (fun _ _ _ _ => False) D) (X.pn ++ pins) (fun e s₁ => wpAny (model X.prog X.w) X.A (noteFrame e X.env) (fun _ s₂ => wpAny (model X.prog X.w) X.A (setFlight e none) (fun _ s₃ =>
    wpAny (model X.prog X.w) X.A (handleBy e X.env [.ExceptHandler (some (.Name x np)) (some n) (b₀ :: suite) pos']) (SP X pins D) X.xe s₃) X.xe s₂) X.xe s₁) (fun u s' xx => ?_) PassesOwn.looking).run [] s σ H D (I.toTry _) h) (fun f s1 hsp => ?_) (fun e s1 he => he)
  · obtain ⟨a, B, sI, pins', σ', H', cls, d, rfl, J', nb, up, sky, na, os, ag, wk⟩ := xx
    obtain ⟨b, hb1, hyes, hno⟩ := wk J'.len
    have J : Inv X pins σ' H' sI := J'.ofTry ok
    have Ba : B.get? a = none := by
      rcases sky with q | q | q
      · exact q.2.1
      · exact q.2.1
      · exact q.2.1
    have sky' : Sky B (X.env :: X.outer) a (Zc cls d) X.env.locals s'.heap := by rw [← hs]; exact sky
    show wpAny (model X.prog X.w) X.A (noteFrame (.ref a) X.env) _ _ _
    refine Sky.land Zc.steady hfr hf sky' fun h3 fl3 up3 => ?_
    have J3 : Inv X pins σ' H' { s' with heap := h3 } := J.landed nb fl3.1 (up.trans up3) os ag
    obtain ⟨oe3, vs3, he3, hz3, hd3⟩ := fl3.there
    have nfr : a ∉ frs (X.env :: X.outer) := fun hm => by
      obtain ⟨_, o', e', hnf⟩ := fl3.2.2.1.mem hm
      rw [he3] at e'
      cases e'
      exact hnf _ hd3
    have nL : a ≠ X.env.locals := fun z => nfr (List.mem_filterMap.mpr ⟨X.env, List.mem_cons_self, by rw [hf, z]⟩)
    have nF : a ∉ X.fs := fun hm => by
      obtain ⟨e, he, q⟩ := List.mem_filterMap.mp hm
      exact nfr (List.mem_filterMap.mpr ⟨e, List.mem_cons_of_mem _ he, q⟩)
    have nI : sI.heap.get? a = none := by
      cases q : sI.heap.get? a with
      | none => rfl
      | some o =>
        rw [nb a o q (by rw [hs]; exact nfr)] at Ba
        cases Ba
    have n0 : X.s_0.heap.get? a = none := by
      cases q : X.s_0.heap.get? a with
      | none => rfl
      | some o =>
        obtain ⟨o', q'⟩ := J.base.there a o q (by rw [hex]; exact List.not_mem_nil)
        rw [nI] at q'
        cases q'
    have npn : ∀ p ∈ X.pn ++ pins, p.1 ≠ a := fun p hp z => by
      have q := (J.pin p hp).1
      rw [z, nI] at q
      cases q
    have S3 := J3.suite he3 hd3 na nL nF
    refine wpAny_handleBy_cons (codeAny_handlers_test ?_) (by intro q; cases q)
    have LT : PySem.W.Looks (model X.prog X.w) h3 (typeOf (.ref a)) cls := fun A Q E s k q => wpAny_typeOf_ref (k _ _ he3) (by rw [hz3.1]; exact q)
    have LM := PySem.W.exm_one (M := model X.prog X.w) (J3.kIn) LT hb1
    have test : ∀ {Q : Value → Shared → Prop} {E : Value → Shared → Prop}, Q c { s' with heap := h3 } → wpAny (model X.prog X.w) (X.A.mark (some (.ref a))) (eval (.Name x np) X.env) Q E { s' with heap := h3 } := fun {Q E} q => by
      obtain ⟨hg, hdbg, hm | ⟨hm, hv, hnn⟩⟩ := hc
      · exact ld_glob (X := X.suite a ((a, oe3) :: (X.pn ++ pins))) S3 hg hm q hdbg
      · exact ld_blt (X := X.suite a ((a, oe3) :: (X.pn ++ pins))) S3 hg hm hv q hnn hdbg
    refine test (LM.here ?_)
    cases b with
    | false => exact (hno rfl).elim
    | true =>
      obtain ⟨C, dd, rfl, rfl, hyes⟩ := hyes rfl
      refine codeAny_handlers_suite_as ?_
      refine HandSPX.lands_againZ fl3 fun h4 fl4 up4 => ?_
      have J4 : Inv X pins σ' H' { s' with heap := h4 } := J.landed nb fl4.1 ((up.trans up3).trans up4) os ag
      obtain ⟨oe4, vs4, he4, hz4, hd4⟩ := fl4.there
      have S4 := J4.suite he4 hd4 na nL nF
      refine store_ok (X := X.suite a ((a, oe4) :: (X.pn ++ pins))) (v := .ref a) S4 hN hi (.inl hln) rfl (fun s5 S5 => ?_) (.inr hln)
      refine wpAny_mono ((hsu a oe4 (.ref C) (some dd) (X.pn ++ pins) hz4 ⟨_, hd4⟩).run [] s5 _ H' _ S5 (hyes a na)) (fun f s6 hsp => ?_) (fun _ _ z => False.elim z)
      cases f with
      | next =>
        obtain ⟨σ6, H6, S6, q6⟩ := hsp
        obtain ⟨g1, g2, _⟩ := S6.pin (a, oe4) (List.mem_append_left _ List.mem_cons_self)
        have J6 := inv_track (S6.unsuite ok) g1 hz4 hd4 g2 n0 nL npn
        exact gone_ok J6 hN hi hln fun s7 J7 => ⟨_, _, J7, q6⟩
      | brk =>
        obtain ⟨σ6, H6, S6, q6⟩ := hsp
        exact (show False from q6).elim
      | cont =>
        obtain ⟨σ6, H6, S6, q6⟩ := hsp
        exact (show False from q6).elim
      | ret u =>
        obtain ⟨v6, σ6, H6, S6, r6, q6⟩ := hsp
        exact (show False from q6).elim
  · cases f with
    | next =>
      obtain ⟨σ', H', J', q⟩ := hsp
      exact wpAny_execs_nil ⟨σ', H', J'.ofTry ok, q⟩
    | brk =>
      obtain ⟨σ', H', J', q⟩ := hsp
      exact ⟨σ', H', J'.ofTry ok, q⟩
    | cont =>
      obtain ⟨σ', H', J', q⟩ := hsp
      exact ⟨σ', H', J'.ofTry ok, q⟩
    | ret u =>
      obtain ⟨v, σ', H', J', r, q⟩ := hsp
      exact ⟨v, σ', H', J'.ofTry ok, r, q⟩
end
end Tg
end
section
set_option Elab.async false
set_option linter.all false
set_option maxRecDepth 100000
set_option maxHeartbeats 4000000
/-! Tg, part L: the end of a law whose defs make lambdas (tables of code objects), for FnG. -/
namespace Tg
open PySem PySem.Spec PyProof.Rows L2 LamX
/-- the law's def over the heap behind the top; cs: code objects with their tables -/
theorem lawGT {P : Program} {w : World} {K : PySem.W.Frag} {mg mb : Str → Option Value} {CX : CXT} {k : Nat} {fa a : Addr} {fd : FuncData} {x : Str} {sp : Sp} {s₁ : Shared} {us : List Value} {ns : List Int} {cs : List (Addr × Addr)}
    (inK : K.In s₁.heap) (gns : s₁.heap.Ns mainGlobals mg) (bns : s₁.heap.Ns builtinsNs mb) (bbt : ∀ x : Str, x ≠ "__name__" → mb x = bootBuiltins x) (lim : s₁.heap.NoLimit) (gens : s₁.gens = #[])
    (tab : ∀ p ∈ cs, s₁.heap.get? p.2 = some { cls := .none, data := .fields #[] }) (tabK : ∀ p ∈ cs, K.lookup p.2 = none) (code : ∀ p ∈ cs, PySem.W.CodeHd s₁.heap p.1 p.2)
    (bmod : ∃ (bm : Addr) (ob : Obj), mg "__builtins__" = some (.ref bm) ∧ bm ≠ builtinsNs ∧ s₁.heap.get? bm = some ob ∧ ob.cls = .type "module" ∧ ob.dict = some builtinsNs ∧ ob.data = .plain)
    (ha : s₁.heap.get? a = some { cls := .type "list", data := .seq us.toArray }) (hi : IntsAre us ns) (hl : ns.length ≤ sizeLine) (room : Room k callerA)
    (F : ∀ base : Heap, K.In base → base.Ns mainGlobals mg → (∀ p ∈ cs, TabB base mg p.1 p.2) → FnG P w K mg base CX k fa fd [x] sp) (bnd : ∀ (s : Shared) (u : Value), BindsTo s fd ⟨[u], []⟩ [(x, u)])
    (hsp : ∀ H : Hp, (∀ p ∈ cs, H p.2 = some (.tbl #[])) → SqL K H a (ns.map V.int) → sp [.ref a] H (fun v _ => v = .bl true) fun _ _ _ => False)
    (noX : ∀ H e s', CX [] H s₁ (fun _ _ _ => False) e s' → False) :
    codeAny (model P w) callerA (.call (.ref fa) ⟨[.ref a], []⟩) (fun r s' => r = .ok (.ret (.bool true)) ∧ OldK s₁.heap s'.heap ∧ s'.os = s₁.os ∧ AllBare s'.gens) s₁ := by
  have relI : Vals (ns.map V.int) us := vals_ints hi
  have lenI := hi.length
  have tabAt : ∀ b, b ∈ cs.map (·.2) → s₁.heap.get? b = some { cls := .none, data := .fields #[] } := by
    intro b hb
    obtain ⟨p, hp, e⟩ := List.mem_map.mp hb
    subst e
    exact tab p hp
  have inT : ∀ p ∈ cs, p.2 ∈ cs.map (·.2) := fun p hp => List.mem_map.mpr ⟨p, hp, rfl⟩
  have aNo : a ∉ cs.map (·.2) := by
    intro z
    have q := (tabAt a z).symm.trans ha
    injection q with q
    injection q with _ _ q
    cases q
  suffices main : ∀ H : Hp, (∀ b, b ∈ cs.map (·.2) → H b = some (.tbl #[])) → SqL K H a (ns.map V.int) → HOk P w H s₁.heap → (∀ b u, H b = some u → b ∈ cs.map (·.2) ∨ (b = a ∧ ∃ o xs, u = .frz o (.lst xs) ∧ K.lookup a = none)) →
      codeAny (model P w) callerA (.call (.ref fa) ⟨[.ref a], []⟩) (fun r s' => r = .ok (.ret (.bool true)) ∧ OldK s₁.heap s'.heap ∧ s'.os = s₁.os ∧ AllBare s'.gens) s₁ by
    cases known : K.lookup a with
    | none =>
      let o : Obj := { cls := .type "list", data := .seq us.toArray }
      let H : Hp := fun b => if b = a then some (.frz o (.lst (ns.map V.int))) else if b ∈ cs.map (·.2) then some (.tbl #[]) else none
      have Ha : H a = some (.frz o (.lst (ns.map V.int))) := if_pos rfl
      have Hn : ∀ b, b ≠ a → H b = if b ∈ cs.map (·.2) then some (.tbl #[]) else none := fun b hb => if_neg hb
      apply main H
      · intro b hb
        rw [Hn b (fun z => aNo (z ▸ hb)), if_pos hb]
      · exact .inl (.inr ⟨o, Ha⟩)
      · intro b u z
        by_cases hb : b = a
        · subst hb
          rw [Ha] at z
          cases z
          exact ⟨ha, by rw [List.length_map]; exact hl, us, _, relI, ha⟩
        · rw [Hn b hb] at z
          by_cases ht : b ∈ cs.map (·.2)
          · rw [if_pos ht] at z
            cases z
            exact tabAt b ht
          · rw [if_neg ht] at z
            cases z
      · intro b u z
        by_cases hb : b = a
        · subst hb
          rw [Ha] at z
          cases z
          exact .inr ⟨rfl, _, _, rfl, known⟩
        · rw [Hn b hb] at z
          by_cases ht : b ∈ cs.map (·.2)
          · exact .inl ht
          · rw [if_neg ht] at z
            cases z
    | some o =>
      have e := inK a o known
      rw [ha] at e
      cases e
      apply main fun b => if b ∈ cs.map (·.2) then some (.tbl #[]) else none
      · exact fun b hb => if_pos hb
      · exact .inr ⟨_, us.toArray, _, known, rfl, rfl, rfl, by rw [List.size_toArray, lenI]; exact hl, by simpa using relI⟩
      · intro b u z
        by_cases ht : b ∈ cs.map (·.2)
        · have z' := (if_pos ht).symm.trans z
          cases z'
          exact tabAt b ht
        · have z' := (if_neg ht).symm.trans z
          cases z'
      · intro b u z
        by_cases ht : b ∈ cs.map (·.2)
        · exact .inl ht
        · have z' := (if_neg ht).symm.trans z
          cases z'
  intro H tabH sq hok who
  have kept : ∀ {b : Addr} {o : Obj}, s₁.heap.get? b = some o → H b = none → (hidT s₁.heap H).get? b = some o := fun e n => hidT_get e n
  have free : ∀ {b : Addr} {o : Obj}, s₁.heap.get? b = some o → (∀ vs n, o.data ≠ .seq vs n) → o.data ≠ .fields #[] → H b = none := by
    intro b o e n1 n2
    cases q : H b with
    | none => rfl
    | some u =>
      rcases who b u q with hb | ⟨hb, _⟩
      · rw [tabAt b hb] at e
        cases e
        exact absurd rfl n2
      · subst hb
        rw [ha] at e
        cases e
        exact absurd rfl (n1 _ _)
  have nsOf : ∀ {b : Addr} {m : Str → Option Value}, s₁.heap.Ns b m → (hidT s₁.heap H).Ns b m := by
    rintro b m ⟨o, es, ep, e, d, r⟩
    exact ⟨o, es, ep, kept e (free e (fun vs n z => by rw [d] at z; cases z) (fun z => by rw [d] at z; cases z)), d, r⟩
  have inB : K.In (hidT s₁.heap H) := by
    intro b o e
    apply kept (inK b o e)
    cases q : H b with
    | none => rfl
    | some u =>
      rcases who b u q with hb | ⟨hb, _, _, _, no⟩
      · obtain ⟨p, hp, ep⟩ := List.mem_map.mp hb
        subst ep
        rw [tabK p hp] at e
        cases e
      · subst hb
        rw [no] at e
        cases e
  have tabB : ∀ p ∈ cs, TabB (hidT s₁.heap H) mg p.1 p.2 := by
    intro p hp
    have tp := tab p hp
    constructor
    · obtain ⟨o, vs, file, tf, flags, tg, inF, text, tt, e1, r1, r2, r3, r⟩ := code p hp
      refine ⟨o, vs, file, tf, flags, tg, inF, text, tt, kept e1 (free e1 (fun vs n z => by rw [r2] at z; cases z) fun z => ?_), r1, r2, r3, r⟩
      rw [r2] at z
      cases z
      simp at r3
    · obtain ⟨bm, ob, b1, b2, b3, b4, b5, b6⟩ := bmod
      refine ⟨bm, ob, b1, b2, fun q => ?_, fun q => ?_, kept b3 (free b3 (fun vs n z => by rw [b6] at z; cases z) fun z => by rw [b6] at z; cases z), b4, b5, b6⟩
      · obtain ⟨o, es, ep, e, d, _⟩ := gns
        rw [q, e] at b3
        cases b3
        rw [d] at b6
        cases b6
      · rw [q, tp] at b3
        cases b3
        cases b6
    · intro q
      obtain ⟨o, es, ep, e, d, _⟩ := gns
      rw [q, tp] at e
      cases e
      cases d
  obtain ⟨mc, l1, l2⟩ := lim
  have md : L2.Mod K mg (hidT s₁.heap H) := ⟨inB, nsOf gns, ⟨mb, nsOf bns, bbt⟩, ⟨mc, nsOf l1, l2⟩⟩
  have none0 : ∀ b : Addr, b ∉ ([] : List Addr) := fun b => List.not_mem_nil
  have en : Env0 P w K mg (hidT s₁.heap H) callerA [] s₁ H :=
    ⟨rfl, md, fun b o e => of_hidT e, Nat.le_of_eq (hidT_size _ _), trivial, fun b hb => absurd hb (none0 b), hok, .of_eq gens⟩
  have ran := (F _ inB (nsOf gns) tabB).go callerA [] s₁ H ⟨[.ref a], []⟩ [.ref a] [.ref a] _ _ rfl room en (bnd s₁ (.ref a)) (.cons rfl .nil) (hsp H (fun p hp => tabH _ (inT p hp)) sq)
  refine codeAny_mono ran ?_
  intro r s' h
  match r, h with
  | .error er, h => exact (noX H er s' h).elim
  | .ok .next, h => exact False.elim h
  | .ok .brk, h => exact False.elim h
  | .ok .cont, h => exact False.elim h
  | .ok (.ret u), ⟨v, H', hos, bare, un, hok', rv, q⟩ =>
    have q' : v = .bl true := q
    subst q'
    have ru : u = Value.bool true := rv
    subst ru
    have rest : ∀ b o, b ∉ cs.map (·.2) → s₁.heap.get? b = some o → s'.heap.get? b = some o := by
      intro b o nb e
      cases z : H b with
      | none => exact un.keep b o e z (none0 b) (none0 b)
      | some u =>
        rcases who b u z with hb | ⟨hb, ob, xs, e0, _⟩
        · exact absurd hb nb
        · subst e0
          obtain ⟨e1, _⟩ := hok b _ z
          obtain ⟨e2, _⟩ := hok' b _ (un.frzs b ob _ z)
          exact e2.trans (e1.symm.trans e)
    have grew : ∀ p ∈ cs, ∃ more : Array Value, s'.heap.get? p.2 = some { cls := .none, data := .fields more } := by
      intro p hp
      obtain ⟨more, z⟩ := un.tbls p.2 #[] (tabH _ (inT p hp))
      exact ⟨_, hok' p.2 _ z⟩
    refine ⟨rfl, ⟨fun b o e => ?_, fun b o e => ?_⟩, hos, bare⟩ <;> by_cases hb : b ∈ cs.map (·.2)
    · obtain ⟨p, hp, ep⟩ := List.mem_map.mp hb
      subst ep
      obtain ⟨more, hm⟩ := grew p hp
      rw [tab p hp] at e
      cases e
      exact .inr (.inl ⟨((code p hp).tab (tab p hp)).isCodeTable, rfl, #[], more, rfl, by rw [Array.empty_append]; exact hm⟩)
    · exact .inl (rest b o hb e)
    · obtain ⟨p, hp, ep⟩ := List.mem_map.mp hb
      subst ep
      obtain ⟨more, hm⟩ := grew p hp
      exact ⟨_, hm⟩
    · exact ⟨o, rest b o hb e⟩
/-- what is known of the law at the head's heap h -/
def AtGT (l : PySem.W.OpenLaw) (w : World) (K : PySem.W.Frag) (CX : CXT) (k n : Nat) (x : Str) (mg : Str → Option Value) (fa : Addr) (h : Heap) : Prop :=
  ∃ (fd : FuncData) (cs : List (Addr × Addr)) (sp : Sp), (∀ p ∈ cs, h.get? p.2 = some { cls := .none, data := .fields #[] }) ∧ (∀ p ∈ cs, K.lookup p.2 = none) ∧ (∀ p ∈ cs, PySem.W.CodeHd h p.1 p.2) ∧ (∀ (s : Shared) (u : Value), BindsTo s fd ⟨[u], []⟩ [(x, u)]) ∧
    (∀ (H : Hp) (a : Addr) (ns : List Int), ns.length ≤ n → (∀ p ∈ cs, H p.2 = some (.tbl #[])) → SqL K H a (ns.map V.int) → sp [.ref a] H (fun v _ => v = .bl true) fun _ _ _ => False) ∧
    ∀ base : Heap, K.In base → base.Ns mainGlobals mg → (∀ p ∈ cs, TabB base mg p.1 p.2) → FnG l.prog w K mg base CX k fa fd [x] sp
/-- the goal that k_head leaves, where lambdas are made -/
theorem walkGT {l : PySem.W.OpenLaw} {n k : Nat} {q : Program} {loose : List Str} {XP : (Str → Option Value) → Heap → Prop} {YP : World → Heap → Prop} {d : DefRec} {K : Params → PySem.W.Frag} {CX : World → CXT} {x : Str}
    (hn : l.most = some n) (hz : n ≤ sizeLine) (hdf : d.params.defaults = []) (room : Room k callerA) (hY : ∀ (w : World) (h : Heap), YP w h → (K w.params).In h)
    (F : ∀ (w : World) (mg : Str → Option Value) (fa : Addr) (h : Heap), YP w h → (K w.params).In h → h.Ns mainGlobals mg → mg d.name = some (.ref fa) → AtGT l w (K w.params) (CX w) k n x mg fa h)
    (noX : ∀ (w : World) (H : Hp) (s : Shared) (e : Value) (s' : Shared), CX w [] H s (fun _ _ _ => False) e s' → False) :
    PySem.W.WalkO q loose XP YP l.row.toRowW d [] (fun f vs => PySem.call f vs) := by
  apply Att.attach_callB hn hdf
  intro w s₀ s₁ mg mb fa o pm cd doc a vs ns G Y ho hd hcd hmg hobj hints hlen hbits hg
  have inK := hY w _ Y
  obtain ⟨fd, cs, sp, t1, t2, t3, bnd, hsp, hF⟩ := F w mg fa _ Y inK G.T.g hmg
  exact lawGT inK G.T.g G.T.b G.T.builtins G.T.nolimit hg t1 t2 t3 G.T.bmain hobj hints (Nat.le_trans hlen hz) room hF bnd (fun H hT hS => hsp H a ns hlen hT hS) fun H e s' => noX w H s₁ e s'
end Tg
end
section
set_option Elab.async false
set_option linter.all false
set_option maxRecDepth 100000
set_option maxHeartbeats 4000000
/-! Tg, part M: comprehensions whose parts are made anew. -/
namespace Tg
open PySem PySem.Spec PyProof.Rows L2
/-- a comprehension: A holds ahead of turn i, R of what turn i gives -/
theorem lc_gen {J : It} {n : Nat} {G : Hp → Prop} {Y : Nat → Hp → V → Hp → Prop} (w : Walk J n G Y) {g : TG} {te : TE} {vs : List Nat} {σ : L2.St} {H1 : Hp} {D : Addr} {Qd : Hp → Prop} (A : Nat → Hp → Prop) (R : Nat → V → Hp → Prop)
    (hA : ∀ i H xs ys, A i H → H D = some (.lst ys) → A i (upd H D (.lst xs))) (hR : ∀ i v H H', R i v H → Kp H H' → R i v H') (hn : n ≤ 1000) (h0 : A 0 (upd H1 D (.lst []))) (hG : ∀ i H, i ≤ n → A i H → G H)
    (hs : ∀ i x H H' acc, i < n → A i H → H D = some (.lst acc) → Y i H x H' → ∀ Qc : VK, (∀ v H4, H4 D = some (.lst acc) → Kp H H4 → A (i + 1) H4 → R i v H4 → Qc v H4) → g x (wipe σ vs) H' fun σ2 H2 => wipe σ2 vs = wipe σ vs ∧ te σ2 H2 Qc)
    (hd : ∀ H xs, A n H → H D = some (.lst xs) → xs.length = n → (∀ (i : Nat) v, xs[i]? = some v → R i v H) → Qd H) :
    ∃ W : Nat → Nat → Hp → Prop, (∃ m, W 0 m (upd H1 D (.lst []))) ∧ ∀ i m H, W i m H →
      (J.stop i H ∧ Qd H) ∨ (J.go i H ∧ ∃ Nx : Hp → Prop, (∀ H', Nx H' → ∃ m', m' < m ∧ W (i + 1) m' H') ∧ ∀ x H', J.yld i H x H' → g x (wipe σ vs) H' fun σ2 H2 => wipe σ2 vs = wipe σ vs ∧ tYes σ2 H2 fun b H3 =>
        if b = true then te σ2 H3 fun y H4 => ∃ acc, H4 D = some (.lst acc) ∧ acc.length < sizeLine ∧ Nx (upd H4 D (.lst (acc ++ [y]))) else Nx H3) := by
  refine lc_it w (fun j H => A j H ∧ ∃ acc : List V, H D = some (.lst acc) ∧ acc.length = j ∧ ∀ (i : Nat) v, acc[i]? = some v → R i v H) ⟨h0, [], upd_same, rfl, fun i v z => nomatch z⟩ (fun i H hi p => hG i H hi p.1) ?_ fun H p => ?_
  · rintro i x H H' hi ⟨a, acc, hD, hl, hr⟩ y
    refine hs i x H H' acc hi a hD y _ fun v H4 hD4 kp a4 r4 => ?_
    have kp2 : Kp H4 (upd H4 D (.lst (acc ++ [v]))) := Kp.put hD4 (fun _ _ z => nomatch z) (fun _ z => nomatch z)
    refine ⟨acc, hD4, ?_, hA _ _ _ _ a4 hD4, _, upd_same, ?_, fun j u hu => ?_⟩
    · rw [sizeLine_eq]
      omega
    · rw [List.length_append, hl]
      rfl
    · by_cases hj : j < acc.length
      · rw [List.getElem?_append_left hj] at hu
        exact hR _ _ _ _ (hr j u hu) (kp.trans kp2)
      · rw [List.getElem?_append_right (by omega)] at hu
        have hj0 : j - acc.length = 0 := by
          by_cases q : j - acc.length = 0
          · exact q
          · rw [List.getElem?_eq_none (by simp; omega)] at hu
            cases hu
        rw [hj0] at hu
        cases hu
        have : j = i := by omega
        subst this
        exact hR _ _ _ _ r4 kp2
  · obtain ⟨a, acc, hD, hl, hr⟩ := p
    exact hd H acc a hD hl hr
/-- data, one by one -/
theorem rpL_of {H : Hp} {P : Nat → PyData → Prop} : ∀ {xs : List V}, (∀ (i : Nat) v, xs[i]? = some v → ∃ d, P i d ∧ Rp H d v) → ∃ ds, RpL H ds xs ∧ ds.length = xs.length ∧ ∀ (i : Nat) d, ds[i]? = some d → P i d := by
  intro xs
  induction xs generalizing P with
  | nil => exact fun _ => ⟨[], RpL.nil, rfl, fun i d z => by simp at z⟩
  | cons x xs ih =>
    intro h
    obtain ⟨d, p, r⟩ := h 0 x rfl
    obtain ⟨ds, r2, l, p2⟩ := ih (P := fun i => P (i + 1)) fun i v z => h (i + 1) v (by simpa using z)
    refine ⟨d :: ds, RpL.cons r r2, by simp [l], fun i e z => ?_⟩
    cases i with
    | zero => simp at z; subst z; exact p
    | succ i => exact p2 i e (by simpa using z)
end Tg
end
section
set_option Elab.async false
set_option linter.all false
set_option maxRecDepth 100000
set_option maxHeartbeats 4000000
/-! Tg, part N: xs != [], d != {}. -/
namespace Tg
open PySem PySem.Spec PyProof.Rows L2
section
variable {X : Cx}
/-- xs != [] -/
def rNeL0 (K : PySem.W.Frag) : R2 := fun x y H Q => ∃ a b xs, x = .ref a ∧ y = .ref b ∧ SqL K H a xs ∧ SqL K H b [] ∧ Q (.bl (!xs.isEmpty)) H
theorem op_neL0 (hu : X.A.units < cLine) : OpR X (compareOp .NotEq) (rNeL0 X.K) := by
  intro pins s σ H x y v u Q I rx ry h
  obtain ⟨a, b, xs, rfl, rfl, ha, hb, q⟩ := h
  cases rx
  cases ry
  obtain ⟨i1, r1, ⟨o1, n1, g1, c1, _, d1⟩, _⟩ := I.list ha
  obtain ⟨i2, r2, ⟨o2, n2, g2, c2, _, d2⟩, _⟩ := I.list hb
  cases r2
  have l1 : s.heap.IsList a i1.toArray := ⟨_, g1, c1, _, d1⟩
  have l2 : s.heap.IsList b ([] : List Value).toArray := ⟨_, g2, c2, _, d2⟩
  cases r1 with
  | nil =>
    refine SeqAt.RcNeAt.lists (e := fun _ => true) l1 l2 rfl hu (fun j h1 => absurd h1 (Nat.not_lt_zero _)) _ _ _ _ ?_
    exact ⟨.bl false, H, I, rfl, q⟩
  | cons _ _ =>
    refine SeqAt.RcNeAt.lists_lengths l1 l2 (by simp) hu _ _ _ _ ?_
    exact ⟨.bl true, H, I, rfl, q⟩
/-- d != {}, d locked -/
def rNeD0 : R2 := fun x y H Q => ∃ a b o kvs, x = .ref a ∧ y = .ref b ∧ H a = some (.frz o (.dK kvs)) ∧ H b = some (.dK []) ∧ Q (.bl (!kvs.isEmpty)) H
theorem op_neD0 (hu : X.A.units < cLine) : OpR X (compareOp .NotEq) rNeD0 := by
  intro pins s σ H x y v u Q I rx ry h
  obtain ⟨a, b, o, kvs, rfl, rfl, ea, eb, q⟩ := h
  cases rx
  cases ry
  obtain ⟨hs, hgd, hx, es, ep, va, hdt, hsz, ra, hm⟩ := I.frzK ea
  obtain ⟨_, yb, vb, rb, db⟩ := (show ObjOk X.prog X.w H s.heap b (.dK []) from I.hok b _ eb)
  cases rb
  have hl : kvs.length = va.length := Paired.length ra
  refine PySem.W.keq_ne (knd := mixKind X.prog X.w) (r := true) hs yb hm.dictOf db hu (fun z => ?_) ⟨.bl _, H, I, ?_, q⟩
  · cases va with
    | nil => exact .nil
    | cons _ _ => cases z
  · show Value.bool _ = Value.bool _
    cases kvs <;> cases va <;> first | rfl | cases hl
end
end Tg
end
section
set_option Elab.async false
set_option linter.all false
set_option maxRecDepth 100000
set_option maxHeartbeats 4000000
/-! Tg, part O: list(d.items()) of a locked dict. -/
namespace Tg
open PySem PySem.Spec PyProof.Rows L2
def tLiF (te : TE) : TE := fun σ H Q => te σ H fun x H1 => ∃ (d : Addr) (o : Obj) (kvs : List (Key × V)), x = .ref d ∧ H1 d = some (.frz o (.dK kvs)) ∧
  ∀ (H' : Hp) (p : Addr) (ts : List Addr), Same H1 H' → H1 p = none → H' p = some (.lst (ts.map V.ref)) → Paired (fun (t : Addr) (q : Key × V) => H' t = some (.tup [kV q.1, q.2])) ts kvs → Q (.ref p) H'
section
variable {X : Cx} {e : Expr} {te : TE} {p ap cp pos : Pos}
theorem pe_liF (calm : X.calm = true) (he : PE X e te) (hg : Gl X "list") (hm : X.mg "list" = none) (hv : bootBuiltins "list" = some (.type "list")) (hb : attributeBase e "items" X.env (eval e X.env) = eval e X.env := by rfl) (hl : (ap.endLine == cp.line) = true := by rfl)
    (hs : starEach [.Call (.Attribute e "items" ap) [] [] cp] X.env = (false, eval (.Call (.Attribute e "items" ap) [] [] cp) X.env) :: starEach [] X.env := by rfl) :
    PE X (.Call (.Name "list" p) [.Call (.Attribute e "items" ap) [] [] cp] [] pos) (tLiF te) := by
  refine ⟨fun pins s σ H Q I hq => wpAny_Call_Name_kw (ld_blt I hg hm hv (PyProof.Rows.callWith_type1 ?_ hs rfl))⟩
  rw [hs]
  show wpAny _ _ (spliced ((false, eval (.Call (.Attribute e "items" ap) [] [] cp) X.env) :: backTo pos (starEach [] X.env))) _ _ s
  refine Calls.spliced_cons (wpAny_Call_method (T := "dict") (id := "dict.items") hb rfl hl F.plainAttrs_dict F.slot_dict_items F.type_dict_items (thn (he.run pins s σ H _ I hq) fun u s1 ⟨x, H1, J, rx, d, o, kvs, ex, hd, q⟩ => ?_))
  subst ex
  cases (show u = Value.ref d from rx)
  obtain ⟨_, zl, _⟩ := J.hok d _ hd
  obtain ⟨sm, _, _, es, ep, vs, _, _, kv, at_⟩ := J.frzK hd
  have ofd := at_.dictOf
  have len2 : kvs.length = vs.length := Paired.length kv
  have J2 : Inv X pins σ H1 { s1 with heap := s1.heap.push { cls := .type "dict_items", data := .fields #[.ref d] } } := J.kept (t' := s1.toks) fun _ _ z => Heap.get?_push_of_some _ z
  refine ⟨ofd.typeIs, ofd.mapOf.noDict, ?_⟩
  show wpAny _ _ (callWith cp (.builtin "dict.items") [.ref d] [] []) _ X.xe s1
  refine method_meetsIn F.slot_dict_items F.entry_dict_items rfl (PySem.evalArgs_none ⟨rfl, ofd.typeIs, F.args_dict_items_1 _, _, meets_dict_items (mixKind X.prog X.w) d sm, ⟨vs, ofd⟩, Calls.spliced_nil ?_⟩)
  refine PySem.W.kdx_call (knd := mixKind X.prog X.w) (kvs := vs) (ep := ep) (J.ok.hd calm) ⟨_, Heap.get?_push_size _ rfl, rfl, rfl⟩ (at_.push _) (by omega) fun hp tk acc c as w1 w2 w3 w4 w5 => ?_
  obtain ⟨H', k1, k2, k3, k4, k5, k6, J3⟩ := LiI.items_laid (tk := tk) J2 zl kv w1 w2 w3 w4 w5
  exact ⟨.ref _, H', J3, rfl, q H' _ as k1 k2 k5 k6⟩
end
end Tg
end
section
set_option Elab.async false
set_option linter.all false
set_option maxRecDepth 100000
set_option maxHeartbeats 4000000
/-! Tg, part P: xs.count(y) of flat values. -/
namespace Tg
open PySem PySem.Spec PyProof.Rows L2
theorem count_eqU {x : V} : ∀ {xs : List V} {us : List Value}, Vals xs us → xs.all flatV = true → us.countP (eqU x) = xs.countP fun y => eqV y x
  | _, _, .nil, _ => rfl
  | y :: xs, u :: us, .cons r t, f => by
    rw [List.all_cons, Bool.and_eq_true] at f
    rw [List.countP_cons, List.countP_cons, eqU_of r f.1, count_eqU t f.2]
section
variable {X : Cx}
def rCntV (K : PySem.W.Frag) : V → List V → Hp → VK → Prop := fun x xs H Q => ∃ (a : Addr) (ys : List V) (y : V), x = .ref a ∧ xs = [y] ∧ SqL K H a ys ∧ flatV y = true ∧ ys.all flatV = true ∧ Q (.int (ys.countP fun z => eqV z y : Nat)) H
theorem mt_countV : MtR X "list.count" (rCntV X.K) := by
  intro pins s σ H x xs v us Q I rx rxs h
  obtain ⟨a, ys, y, rfl, rfl, hs, fy, fys, q⟩ := h
  cases rx
  cases rxs with
  | cons ry rt =>
    rename_i uy ut
    cases rt
    obtain ⟨its, rv, ⟨⟨cl, dd, dat, sl⟩, n, ho, h1, _, h2⟩, _⟩ := I.list hs
    simp only at h1 h2
    subst h1 h2
    refine call_meets PySem.F.slot_list_count ⟨_, ho, rfl⟩ PySem.F.entry_list_count (PySem.F.args_list_count_2 _ _) (SeqAt.list_countAt a its.toArray n dd sl uy (eqU y)) ⟨ho, fun z hz => mem_eqAt ry fy rv fys z (by simpa using hz), ?_⟩
    refine ⟨.int (ys.countP fun z => eqV z y : Nat), H, I.tok _, ⟨s.toks, ?_⟩, q⟩
    show Value.int ((its.toArray.toList.countP (eqU y) : Nat) : Int) s.toks = _
    rw [show its.toArray.toList = its from rfl, count_eqU rv fys]
end
end Tg
end
section
set_option Elab.async false
set_option linter.all false
set_option maxRecDepth 100000
set_option maxHeartbeats 4000000
/-! Tg, part Q: a def whose code object is known (it makes a lambda). -/
namespace Tg
open PySem PySem.Spec PyProof.Rows L2 LamX
structure FunC (K : PySem.W.Frag) (x ql : Str) (st : Stmt) (f : Addr) (fd : FuncData) (c : Addr) : Prop where
  ex : ∃ (oc : Value) (od : Option Addr) (kV doc pm : Value) (an : Option Addr) (ct : Value) (osl : Array (Option Value)),
    fd = PySem.W.fnOf x ql (defArgs st) (defBody st) (defScope st) .none kV doc pm an (.ref c) ct ∧ K.lookup f = some ⟨oc, od, .func fd, osl⟩ ∧ PySem.W.codeIn K (.ref c) ql = true
section
variable {P : Program} {w : World} {K : PySem.W.Frag} {mg : Str → Option Value} {base : Heap}
theorem funGC {x ql : Str} {st : Stmt} {f c : Addr} {fd : FuncData} {N ps : List Str} {k : Nat} {sp : Sp} (F : FunC K x ql st f fd c) (S : FnScope N ps (defScope st)) (len : ∀ vs H Q E, sp vs H Q E → vs.length = ps.length)
    (hb : ∀ (A : Around) (fr : List Env) (s : Shared) (H : Hp) (vs : List V) (Q : VK) (E : XK), A.guards = some [] → Room k (A.deeper (envOfC ql (defScope st) s.heap.objs.size f (.ref c))) → sp vs H Q E →
      ∃ t, PSs (cxOf CX0 P w K mg base N ql (defScope st) f (.ref c) A fr s H E).nox (defBody st) t ∧ t { nx := fun _ H' => Q .non H', rt := Q } (start N vs) H) : FnG P w K mg base CX0 (k + 1) f fd ps sp := by
  obtain ⟨_, _, _, _, _, _, _, _, rfl, lk, hc⟩ := F.ex
  exact fnG_of lk hc S len fun A fr s H vs Q E hg hr hsp => by
    obtain ⟨t, h, q⟩ := hb A fr s H vs Q E hg hr hsp
    exact ⟨t, h.nox, q⟩
end
theorem ExtN.kp {H H' : Hp} (e : ExtN H H') : Kp H H' := ⟨fun _ _ _ q => e _ _ q (fun _ z => nomatch z), fun _ _ q => e _ _ q (fun _ z => nomatch z)⟩
theorem Rp.extN {H H' : Hp} {d : PyData} {v : V} (r : Rp H d v) (e : ExtN H H') : Rp H' d v := r.keep (ExtN.kp e)
theorem ExtN.same {H H' : Hp} (s : Same H H') : ExtN H H' := fun b o q _ => s b o q
end Tg
end
section
set_option Elab.async false
set_option linter.all false
set_option maxRecDepth 100000
set_option maxHeartbeats 4000000
/-! Tg, part R: readings over data alone (Dw): what stands still is data, what is one's own is a list, a dict or the pot. -/
namespace Dw
open PySem PySem.Spec PyProof.Rows L2 Tg LamX
/-- what a slot holds -/
inductive DV where
  | d (x : PyData) | l (xs : List PyData) | m (kvs : List (PyData × PyData)) | pot (p : Addr) (c : Int) | v (x : V)
def DV.mt : DV → Bool
  | .l _ | .m _ | .pot _ _ => true
  | _ => false
def DV.ow : DV → Bool
  | .l _ | .m _ => true
  | _ => false
abbrev DSt := List (Option DV)
abbrev TD := DSt → (PyData → DSt → Prop) → Prop
/-- the pot -/
structure PotAt (H : Hp) (p : Addr) (c : Int) : Prop where
  ex : ∃ x y z : Int, H p = some (.lst [.int x, .int y, .int z]) ∧ 0 ≤ x ∧ 0 ≤ y ∧ y < 2305843009213693921 ∧ 0 ≤ z ∧ z ≤ c
theorem PotAt.up {H : Hp} {p : Addr} {c c' : Int} (h : PotAt H p c) (l : c ≤ c') : PotAt H p c' := by
  obtain ⟨x, y, z, e, a, b, d, f, g⟩ := h.ex
  exact ⟨x, y, z, e, a, b, d, f, by omega⟩
def But (p : Addr) (H H' : Hp) : Prop := ∀ b o, b ≠ p → H b = some o → H' b = some o
theorem But.same {p : Addr} {H H' : Hp} (s : Same H H') : But p H H' := fun b o _ e => s b o e
theorem But.trans {p : Addr} {H H1 H2 : Hp} (a : But p H H1) (b : But p H1 H2) : But p H H2 := fun c o n e => b c o n (a c o n e)
theorem But.upd {p : Addr} {H : Hp} {o : HO} : But p H (upd H p o) := fun b u n e => by rw [upd_ne n]; exact e
def LD : HO → Prop
  | .lst _ => True
  | .dK _ => True
  | _ => False
theorem kp_but {H H' : Hp} {p : Addr} {u : HO} (h : H p = some u) (ld : LD u) (b : But p H H') : Kp H H' :=
  ⟨fun a o w q => b a _ (ne_of q h (fun z => by rw [← z] at ld; exact ld)) q, fun a xs q => b a _ (ne_of q h (fun z => by rw [← z] at ld; exact ld)) q⟩
/-- all stays but S; a table stays a table -/
def Fr (S : Addr → Prop) (H H' : Hp) : Prop := ∀ b o, ¬ S b → H b = some o → H' b = some o ∨ ∃ ps ps', o = .tbl ps ∧ H' b = some (.tbl ps')
structure DC where
  H0 : Hp
  S : Addr → Prop
  N : Addr → Prop
  J : Hp → Prop
  js : ∀ H H', Same H H' → J H → J H'
  jb : ∀ H H' p u, H p = some u → LD u → ¬ N p → But p H H' → J H → J H'
def Dv (C : DC) (H : Hp) : DV → V → Prop
  | .d x, w => Rp H x w
  | .l xs, w => ∃ a vs, w = .ref a ∧ H a = some (.lst vs) ∧ RpL H xs vs ∧ C.H0 a = none ∧ ¬ C.S a ∧ ¬ C.N a
  | .m kvs, w => ∃ a ks, w = .ref a ∧ H a = some (.dK ks) ∧ RpD H kvs ks ∧ C.H0 a = none ∧ ¬ C.S a ∧ ¬ C.N a
  | .pot p c, w => w = .ref p ∧ PotAt H p c ∧ (C.S p ∨ C.H0 p = none) ∧ ¬ C.N p
  | .v x, w => w = x
structure DI (C : DC) (ρ : DSt) (σ : L2.St) (H : Hp) : Prop where
  len : ρ.length = σ.length
  at_ : ∀ (i : Nat) dv, ρ[i]? = some (some dv) → ∃ w, σ[i]? = some (some w) ∧ Dv C H dv w
  sep : ∀ (i j : Nat) x y w, ρ[i]? = some (some x) → ρ[j]? = some (some y) → x.mt = true → y.mt = true → σ[i]? = some (some w) → σ[j]? = some (some w) → i = j
  fr : Fr C.S C.H0 H
  sx : ∀ b, C.S b → ∃ xs, H b = some (.lst xs)
  nx : ∀ b, C.N b → ∃ o, H b = some o
  j : C.J H
section
variable {C : DC} {ρ : DSt} {σ : L2.St} {H H' : Hp}
theorem Dv.same {dv : DV} {w : V} (h : Dv C H dv w) (s : Same H H') : Dv C H' dv w := by
  cases dv with
  | d x => exact Rp.same (show Rp H x w from h) s
  | l xs =>
    obtain ⟨a, vs, e, h1, h2, h3⟩ := h
    exact ⟨a, vs, e, s _ _ h1, h2.same s, h3⟩
  | m kvs =>
    obtain ⟨a, ks, e, h1, h2, h3⟩ := h
    exact ⟨a, ks, e, s _ _ h1, RpD.keep (Kp.same s) _ _ h2, h3⟩
  | pot p c =>
    obtain ⟨e, ⟨x, y, z, h1, h2⟩, h3⟩ := h
    exact ⟨e, ⟨x, y, z, s _ _ h1, h2⟩, h3⟩
  | v x => exact h
/-- a place whose thing is changed is not the slot's -/
theorem Dv.but {dv : DV} {w : V} {p : Addr} {u : HO} (h : Dv C H dv w) (hp : H p = some u) (ld : LD u) (b : But p H H') (ne : dv.mt = true → w ≠ .ref p) : Dv C H' dv w := by
  have kp := kp_but hp ld b
  cases dv with
  | d x => exact Rp.keep kp _ _ (show Rp H x w from h)
  | l xs =>
    obtain ⟨a, vs, e, h1, h2, h3⟩ := h
    exact ⟨a, vs, e, b _ _ (fun z => ne rfl (by rw [e, z])) h1, RpL.keep kp _ _ h2, h3⟩
  | m kvs =>
    obtain ⟨a, ks, e, h1, h2, h3⟩ := h
    exact ⟨a, ks, e, b _ _ (fun z => ne rfl (by rw [e, z])) h1, RpD.keep kp _ _ h2, h3⟩
  | pot p' c =>
    obtain ⟨e, ⟨x, y, z, h1, h2⟩, h3⟩ := h
    exact ⟨e, ⟨x, y, z, b _ _ (fun z => ne rfl (by rw [e, z])) h1, h2⟩, h3⟩
  | v x => exact h
theorem DI.same (I : DI C ρ σ H) (s : Same H H') : DI C ρ σ H' := by
  refine ⟨I.len, fun i dv e => ?_, I.sep, fun b o n e => ?_, fun b hb => ?_, fun b hb => ?_, C.js _ _ s I.j⟩
  · obtain ⟨w, h1, h2⟩ := I.at_ i dv e
    exact ⟨w, h1, h2.same s⟩
  · rcases I.fr b o n e with h | ⟨ps, ps', h1, h2⟩
    · exact .inl (s _ _ h)
    · exact .inr ⟨ps, ps', h1, s _ _ h2⟩
  · obtain ⟨xs, h⟩ := I.sx b hb
    exact ⟨xs, s _ _ h⟩
  · obtain ⟨xs, h⟩ := I.nx b hb
    exact ⟨xs, s _ _ h⟩
theorem DI.h0 (I : DI C ρ σ H) {p : Addr} (n : H p = none) : C.H0 p = none ∧ ¬ C.S p ∧ ¬ C.N p := by
  have ns : ¬ C.S p := fun z => by
    obtain ⟨xs, h⟩ := I.sx p z
    rw [n] at h
    cases h
  have nn : ¬ C.N p := fun z => by
    obtain ⟨xs, h⟩ := I.nx p z
    rw [n] at h
    cases h
  refine ⟨?_, ns, nn⟩
  cases e : C.H0 p with
  | none => rfl
  | some o =>
    rcases I.fr p o ns e with h | ⟨_, _, _, h⟩ <;> rw [n] at h <;> cases h
/-- a place that is not known is no slot's -/
theorem DI.apart (I : DI C ρ σ H) {p : Addr} (n : H p = none) : ∀ (i : Nat) y, ρ[i]? = some (some y) → y.mt = true → σ[i]? ≠ some (some (.ref p)) := by
  intro i y e hm z
  obtain ⟨w, h1, h2⟩ := I.at_ i y e
  rw [z] at h1
  cases h1
  cases y with
  | d x => cases hm
  | l xs =>
    obtain ⟨a, vs, e, h1, _⟩ := h2
    cases e
    rw [n] at h1
    cases h1
  | m kvs =>
    obtain ⟨a, vs, e, h1, _⟩ := h2
    cases e
    rw [n] at h1
    cases h1
  | pot a c =>
    obtain ⟨e, ⟨_, _, _, h1, _⟩, _⟩ := h2
    cases e
    rw [n] at h1
    cases h1
  | v x => cases hm
/-- what is one's own, and no slot's, is changed -/
theorem DI.but (I : DI C ρ σ H) {p : Addr} {u : HO} (hp : H p = some u) (ld : LD u) (b : But p H H') (n0 : C.H0 p = none) (ns : ¬ C.S p) (nn : ¬ C.N p) (ap : ∀ (i : Nat) y, ρ[i]? = some (some y) → y.mt = true → σ[i]? ≠ some (some (.ref p))) : DI C ρ σ H' := by
  refine ⟨I.len, fun i dv e => ?_, I.sep, fun c o n e => ?_, fun c hc => ?_, fun c hc => ?_, C.jb _ _ _ _ hp ld nn b I.j⟩
  · obtain ⟨w, h1, h2⟩ := I.at_ i dv e
    exact ⟨w, h1, h2.but hp ld b fun hm z => ap i dv e hm (by rw [h1, z])⟩
  · have cp : c ≠ p := fun z => by rw [z, n0] at e; cases e
    rcases I.fr c o n e with h | ⟨ps, ps', h1, h2⟩
    · exact .inl (b _ _ cp h)
    · exact .inr ⟨ps, ps', h1, b _ _ cp h2⟩
  · obtain ⟨xs, h⟩ := I.sx c hc
    exact ⟨xs, b _ _ (fun z => ns (z ▸ hc)) h⟩
  · obtain ⟨xs, h⟩ := I.nx c hc
    exact ⟨xs, b _ _ (fun z => nn (z ▸ hc)) h⟩
theorem get_set {α : Type} {xs : List α} {i j : Nat} {x y : α} (h : (xs.set i x)[j]? = some y) : (j = i ∧ y = x ∧ i < xs.length) ∨ (j ≠ i ∧ xs[j]? = some y) := by
  by_cases e : i = j
  · subst e
    by_cases l : i < xs.length
    · rw [List.getElem?_set_self l] at h
      cases h
      exact .inl ⟨rfl, rfl, l⟩
    · rw [List.getElem?_eq_none (by simp; omega)] at h
      cases h
  · rw [List.getElem?_set_ne e] at h
    exact .inr ⟨Ne.symm e, h⟩
/-- a slot is filled -/
theorem DI.set (I : DI C ρ σ H) {i : Nat} {dv : DV} {w : V} (h : Dv C H dv w) (ap : dv.mt = true → ∀ (j : Nat) y, j ≠ i → ρ[j]? = some (some y) → y.mt = true → σ[j]? ≠ some (some w)) : DI C (ρ.set i (some dv)) (σ.set i (some w)) H := by
  refine ⟨by rw [List.length_set, List.length_set, I.len], fun j y e => ?_, fun j k x y u ej ek mx my hj hk => ?_, I.fr, I.sx, I.nx, I.j⟩
  · rcases get_set e with ⟨rfl, e2, l⟩ | ⟨ne, e2⟩
    · cases e2
      exact ⟨w, by rw [List.getElem?_set_self (by rw [← I.len]; exact l)], h⟩
    · obtain ⟨u, h1, h2⟩ := I.at_ j y e2
      exact ⟨u, by rw [List.getElem?_set_ne (Ne.symm ne)]; exact h1, h2⟩
  · rcases get_set ej with ⟨rfl, e2, l⟩ | ⟨ne, e2⟩
    · cases e2
      rcases get_set ek with ⟨rfl, e3, l3⟩ | ⟨ne3, e3⟩
      · rfl
      · rw [List.getElem?_set_self (by rw [← I.len]; exact l)] at hj
        cases hj
        rw [List.getElem?_set_ne (Ne.symm ne3)] at hk
        exact absurd hk (ap mx k y ne3 e3 my)
    · rcases get_set ek with ⟨rfl, e3, l3⟩ | ⟨ne3, e3⟩
      · cases e3
        rw [List.getElem?_set_self (by rw [← I.len]; exact l3)] at hk
        cases hk
        rw [List.getElem?_set_ne (Ne.symm ne)] at hj
        exact absurd hj (ap my j x ne e2 mx)
      · rw [List.getElem?_set_ne (Ne.symm ne)] at hj
        rw [List.getElem?_set_ne (Ne.symm ne3)] at hk
        exact I.sep j k x y u e2 e3 mx my hj hk
theorem DI.setD (I : DI C ρ σ H) {i : Nat} {x : PyData} {w : V} (h : Rp H x w) : DI C (ρ.set i (some (.d x))) (σ.set i (some w)) H := I.set (dv := .d x) h fun z => nomatch z
theorem DI.setV (I : DI C ρ σ H) {i : Nat} {w : V} : DI C (ρ.set i (some (.v w))) (σ.set i (some w)) H := I.set (dv := .v w) rfl fun z => nomatch z
/-- .. and is told otherwise -/
theorem DI.tell (I : DI C ρ σ H) {i : Nat} {dv : DV} {w : V} (e : σ[i]? = some (some w)) (h : Dv C H dv w) (ap : dv.mt = true → ∀ (j : Nat) y, j ≠ i → ρ[j]? = some (some y) → y.mt = true → σ[j]? ≠ some (some w)) : DI C (ρ.set i (some dv)) σ H := by
  have J := I.set (i := i) h ap
  have q : σ.set i (some w) = σ := by
    apply List.ext_getElem?
    intro j
    by_cases ej : i = j
    · subst ej
      have l : i < σ.length := by
        by_cases l : i < σ.length
        · exact l
        · rw [List.getElem?_eq_none (by omega)] at e; cases e
      rw [List.getElem?_set_self l, e]
    · rw [List.getElem?_set_ne ej]
  rw [q] at J
  exact J
/-- a slot is forgotten -/
theorem DI.forget (I : DI C ρ σ H) (i : Nat) : DI C (ρ.set i none) σ H := by
  refine ⟨by rw [List.length_set, I.len], fun j y e => ?_, fun j k x y u ej ek mx my hj hk => ?_, I.fr, I.sx, I.nx, I.j⟩
  · rcases get_set e with ⟨_, e2, _⟩ | ⟨_, e2⟩
    · cases e2
    · exact I.at_ j y e2
  · rcases get_set ej with ⟨_, e2, _⟩ | ⟨_, e2⟩
    · cases e2
    · rcases get_set ek with ⟨_, e3, _⟩ | ⟨_, e3⟩
      · cases e3
      · exact I.sep j k x y u e2 e3 mx my hj hk
end
/-! ### readings of expressions -/
class Ref (C : DC) (t : TE) (T : outParam TD) : Prop where
  go : ∀ {σ : L2.St} {H : Hp} {Q : VK} {ρ : DSt} {K : PyData → DSt → Prop}, DI C ρ σ H → T ρ K → (∀ d ρ' w H', K d ρ' → Kp H H' → DI C ρ' σ H' → Rp H' d w → Q w H') → t σ H Q
/-- a new list or dict that no slot holds yet -/
structure New (C : DC) (ρ : DSt) (σ : L2.St) (H : Hp) (dv : DV) (p : Addr) : Prop where
  ow : dv.ow = true
  dv : Dv C H dv (.ref p)
  ap : ∀ (i : Nat) y, ρ[i]? = some (some y) → y.mt = true → σ[i]? ≠ some (some (.ref p))
abbrev TN := DSt → (DV → DSt → Prop) → Prop
class RefN (C : DC) (t : TE) (T : outParam TN) : Prop where
  go : ∀ {σ : L2.St} {H : Hp} {Q : VK} {ρ : DSt} {K : DV → DSt → Prop}, DI C ρ σ H → T ρ K → (∀ dv ρ' p H', K dv ρ' → Kp H H' → DI C ρ' σ H' → New C ρ' σ H' dv p → Q (.ref p) H') → t σ H Q
abbrev TDA := DSt → (List PyData → DSt → Prop) → Prop
class RefA (C : DC) (t : TA) (T : outParam TDA) : Prop where
  go : ∀ {σ : L2.St} {H : Hp} {Q : List V → Hp → Prop} {ρ : DSt} {K : List PyData → DSt → Prop}, DI C ρ σ H → T ρ K → (∀ ds ρ' ws H', K ds ρ' → Kp H H' → DI C ρ' σ H' → RpL H' ds ws → Q ws H') → t σ H Q
abbrev TDT := DSt → (Bool → DSt → Prop) → Prop
class RefT (C : DC) (t : TT) (T : outParam TDT) : Prop where
  go : ∀ {σ : L2.St} {H : Hp} {Q : Bool → Hp → Prop} {ρ : DSt} {K : Bool → DSt → Prop}, DI C ρ σ H → T ρ K → (∀ b ρ' H', K b ρ' → Kp H H' → DI C ρ' σ H' → Q b H') → t σ H Q
structure DEnds where
  nx : DSt → Prop
  rt : PyData → DSt → Prop
  bk : DSt → Prop := fun _ => False
  ct : DSt → Prop := fun _ => False
abbrev TDS := DEnds → DSt → Prop
class RefS (C : DC) (t : TS) (T : outParam TDS) : Prop where
  go : ∀ {D : Ends} {σ : L2.St} {H : Hp} {ρ : DSt} {DD : DEnds}, DI C ρ σ H → T DD ρ → (∀ ρ' σ' H', DD.nx ρ' → Kp H H' → DI C ρ' σ' H' → D.nx σ' H') → (∀ d ρ' w σ' H', DD.rt d ρ' → Kp H H' → DI C ρ' σ' H' → Rp H' d w → D.rt w H') →
    (∀ ρ' σ' H', DD.bk ρ' → Kp H H' → DI C ρ' σ' H' → D.bk σ' H') → (∀ ρ' σ' H', DD.ct ρ' → Kp H H' → DI C ρ' σ' H' → D.ct σ' H') → t D σ H
/-! ### names and written values -/
def DVar (i : Nat) : TD := fun ρ K => match ρ[i]? with
  | some (some (.d x)) => K x ρ
  | _ => False
def DCon (x : PyData) : TD := fun ρ K => K x ρ
section
variable {C : DC}
instance iVar {i : Nat} : Ref C (tVar i) (DVar i) := ⟨fun {σ H Q ρ K} I h k => by
  unfold DVar at h
  split at h
  · rename_i x e
    obtain ⟨w, h1, h2⟩ := I.at_ i _ e
    exact ⟨w, h1, k x ρ w H h (Kp.refl _) I h2⟩
  · exact h.elim⟩
theorem con_go {w : V} {x : PyData} (hx : ∀ H, Rp H x w) {σ : L2.St} {H : Hp} {Q : VK} {ρ : DSt} {K : PyData → DSt → Prop} (I : DI C ρ σ H) (h : DCon x ρ K) (k : ∀ d ρ' w H', K d ρ' → Kp H H' → DI C ρ' σ H' → Rp H' d w → Q w H') : tC w σ H Q :=
  k x ρ w H h (Kp.refl _) I (hx H)
instance iNon : Ref C (tC .non) (DCon .none) := ⟨con_go fun _ => Rp.non⟩
instance iBl {b : Bool} : Ref C (tC (.bl b)) (DCon (.bool b)) := ⟨con_go fun _ => Rp.bl⟩
instance iInt {i : Int} : Ref C (tC (.int i)) (DCon (.int i)) := ⟨con_go fun _ => Rp.int⟩
instance iStr {x : Str} : Ref C (tC (.str x)) (DCon (.str x)) := ⟨con_go fun _ => Rp.str⟩
/-! ### what is locked -/
def DLock (T : TN) : TD := fun ρ K => T ρ fun dv ρ' => match dv with
  | .l xs => K (.list xs) ρ'
  | .m kvs => K (.dict kvs) ρ'
  | _ => False
theorem New.ld {ρ : DSt} {σ : L2.St} {H : Hp} {dv : DV} {p : Addr} (n : New C ρ σ H dv p) : ∃ u, H p = some u ∧ LD u ∧ Mut (some u) ∧ C.H0 p = none ∧ ¬ C.S p ∧ ¬ C.N p := by
  have h1 := n.ow
  have h2 := n.dv
  cases dv with
  | l xs =>
    obtain ⟨a, vs, e, h1, _, h3, h4⟩ := h2
    cases e
    exact ⟨_, h1, True.intro, True.intro, h3, h4⟩
  | m xs =>
    obtain ⟨a, vs, e, h1, _, h3, h4⟩ := h2
    cases e
    exact ⟨_, h1, True.intro, True.intro, h3, h4⟩
  | d x => cases h1
  | pot p c => cases h1
  | v x => cases h1
instance iLock {t : TE} {T : TN} [r : RefN C t T] : Ref C (tFz t) (DLock T) := ⟨fun {σ H Q ρ K} I h k => by
  refine r.go I h fun dv ρ' p H' q kp I' n => ?_
  obtain ⟨u, hu, ld, mu, n0, ns, nn⟩ := n.ld
  refine ⟨p, u, rfl, hu, mu, fun o => ?_⟩
  have I2 := I'.but hu ld (But.upd (o := .frz o u)) n0 ns nn n.ap
  have kp2 := kp_but hu ld (But.upd (p := p) (H := H') (o := .frz o u))
  have ow := n.ow
  have dv' := n.dv
  cases dv with
  | l xs =>
    obtain ⟨a, vs, e, h1, h2, _⟩ := dv'
    cases e
    rw [hu] at h1
    cases h1
    exact k _ _ _ _ q (kp.trans kp2) I2 (Rp.lst upd_same (RpL.keep kp2 _ _ h2))
  | m xs =>
    obtain ⟨a, vs, e, h1, h2, _⟩ := dv'
    cases e
    rw [hu] at h1
    cases h1
    exact k _ _ _ _ q (kp.trans kp2) I2 (Rp.dct upd_same (RpD.keep kp2 _ _ h2))
  | d x => cases ow
  | pot p c => cases ow
  | v x => cases ow⟩
/-- a name whose list or dict is locked from now on -/
def DLockV (i : Nat) : TD := fun ρ K => match ρ[i]? with
  | some (some (.l xs)) => K (.list xs) (ρ.set i (some (.d (.list xs))))
  | some (some (.m kvs)) => K (.dict kvs) (ρ.set i (some (.d (.dict kvs))))
  | _ => False
theorem DI.own (I : DI C ρ σ H) {i : Nat} {dv : DV} {w : V} (e : ρ[i]? = some (some dv)) (hw : σ[i]? = some (some w)) (ow : dv.mt = true) : ∀ (j : Nat) y, (ρ.set i none)[j]? = some (some y) → y.mt = true → σ[j]? ≠ some (some w) := by
  intro j y ej my hj
  rcases get_set ej with ⟨_, e2, _⟩ | ⟨ne, e2⟩
  · cases e2
  · exact ne (I.sep j i y dv w e2 e my ow hj hw)
theorem set_set {α : Type} {xs : List α} {i : Nat} {x y : α} : (xs.set i x).set i y = xs.set i y := by
  simp
instance iLockV {i : Nat} : Ref C (tFz (tVar i)) (DLockV i) := ⟨fun {σ H Q ρ K} I h k => by
  unfold DLockV at h
  split at h
  · rename_i xs e
    obtain ⟨w, h1, a, vs, rfl, h2, h3, h4, h5, h6⟩ := I.at_ i _ e
    refine ⟨_, h1, a, _, rfl, h2, True.intro, fun o => ?_⟩
    have kp := kp_but h2 True.intro (But.upd (p := a) (H := H) (o := .frz o (.lst vs)))
    have I2 := (I.forget i).but h2 True.intro (But.upd (o := .frz o (.lst vs))) h4 h5 h6 (DI.own I e h1 rfl)
    have r : Rp (upd H a (.frz o (.lst vs))) (.list xs) (.ref a) := Rp.lst upd_same (RpL.keep kp _ _ h3)
    have I3 := I2.tell (dv := .d (.list xs)) h1 r fun z => nomatch z
    rw [set_set] at I3
    exact k _ _ _ _ h kp I3 r
  · rename_i xs e
    obtain ⟨w, h1, a, vs, rfl, h2, h3, h4, h5, h6⟩ := I.at_ i _ e
    refine ⟨_, h1, a, _, rfl, h2, True.intro, fun o => ?_⟩
    have kp := kp_but h2 True.intro (But.upd (p := a) (H := H) (o := .frz o (.dK vs)))
    have I2 := (I.forget i).but h2 True.intro (But.upd (o := .frz o (.dK vs))) h4 h5 h6 (DI.own I e h1 rfl)
    have r : Rp (upd H a (.frz o (.dK vs))) (.dict xs) (.ref a) := Rp.dct upd_same (RpD.keep kp _ _ h3)
    have I3 := I2.tell (dv := .d (.dict xs)) h1 r fun z => nomatch z
    rw [set_set] at I3
    exact k _ _ _ _ h kp I3 r
  · exact h.elim⟩
end
end Dw
end
section
set_option Elab.async false
set_option linter.all false
set_option maxRecDepth 100000
set_option maxHeartbeats 4000000
/-! Tg, part S: Dw: operations by data, arguments, tests, statements. -/
namespace Dw
open PySem PySem.Spec PyProof.Rows L2 Tg LamX
/-! ### operations by data -/
abbrev D1 := PyData → (PyData → Prop) → Prop
abbrev D2 := PyData → PyData → (PyData → Prop) → Prop
abbrev DL := List PyData → (PyData → Prop) → Prop
def rD (R : D2) : R2 := fun x y H Q => ∃ d e K, Rp H d x ∧ Rp H e y ∧ R d e K ∧ ∀ z w H', K z → Same H H' → Rp H' z w → Q w H'
def uD (R : D1) : V → Hp → VK → Prop := fun x H Q => ∃ d K, Rp H d x ∧ R d K ∧ ∀ z w H', K z → Same H H' → Rp H' z w → Q w H'
def cD (R : DL) : List V → Hp → VK → Prop := fun xs H Q => ∃ ds K, RpL H ds xs ∧ R ds K ∧ ∀ z w H', K z → Same H H' → Rp H' z w → Q w H'
def mD (R : PyData → DL) : V → List V → Hp → VK → Prop := fun x xs H Q => ∃ d ds K, Rp H d x ∧ RpL H ds xs ∧ R d ds K ∧ ∀ z w H', K z → Same H H' → Rp H' z w → Q w H'
def sD (R : PyData → Option Int → Option Int → (PyData → Prop) → Prop) : V → Option Int → Option Int → Hp → VK → Prop := fun x lo hi H Q => ∃ d K, Rp H d x ∧ R d lo hi K ∧ ∀ z w H', K z → Same H H' → Rp H' z w → Q w H'
/-- .. that make a new list -/
def NewL (H : Hp) (xs : List PyData) (p : Addr) (H' : Hp) : Prop := ∃ vs, H p = none ∧ H' = upd H p (.lst vs) ∧ RpL H xs vs
def NewM (H : Hp) (xs : List (PyData × PyData)) (p : Addr) (H' : Hp) : Prop := ∃ vs, H p = none ∧ H' = upd H p (.dK vs) ∧ RpD H xs vs
abbrev L1 := PyData → (List PyData → Prop) → Prop
abbrev LL2 := PyData → PyData → (List PyData → Prop) → Prop
abbrev LL := List PyData → (List PyData → Prop) → Prop
def rN (R : LL2) : R2 := fun x y H Q => ∃ d e K, Rp H d x ∧ Rp H e y ∧ R d e K ∧ ∀ z p H', K z → NewL H z p H' → Q (.ref p) H'
def cN (R : LL) : List V → Hp → VK → Prop := fun xs H Q => ∃ ds K, RpL H ds xs ∧ R ds K ∧ ∀ z p H', K z → NewL H z p H' → Q (.ref p) H'
def mN (R : PyData → LL) : V → List V → Hp → VK → Prop := fun x xs H Q => ∃ d ds K, Rp H d x ∧ RpL H ds xs ∧ R d ds K ∧ ∀ z p H', K z → NewL H z p H' → Q (.ref p) H'
def sN (R : PyData → Option Int → Option Int → (List PyData → Prop) → Prop) : V → Option Int → Option Int → Hp → VK → Prop := fun x lo hi H Q => ∃ d K, Rp H d x ∧ R d lo hi K ∧ ∀ z p H', K z → NewL H z p H' → Q (.ref p) H'
section
variable {X : Cx}
theorem OpR.of {f : Value → Value → Sem Value} {r r' : R2} (h : OpR X f r) (i : ∀ x y H Q, r' x y H Q → r x y H Q) : OpR X f r' := fun pins s σ H x y v u Q I rx ry q => h pins s σ H x y v u Q I rx ry (i x y H Q q)
theorem UnR.of {f : Value → Sem Value} {r r' : V → Hp → VK → Prop} (h : UnR X f r) (i : ∀ x H Q, r' x H Q → r x H Q) : UnR X f r' := fun pins s σ H x v Q I rx q => h pins s σ H x v Q I rx (i x H Q q)
theorem IxR.of {r r' : R2} (h : IxR X r) (i : ∀ x y H Q, r' x y H Q → r x y H Q) : IxR X r' := fun a b pins s σ H x y v u Q I rx ry q => h a b pins s σ H x y v u Q I rx ry (i x y H Q q)
theorem CallR.of {f : Value} {r r' : List V → Hp → VK → Prop} (h : CallR X f r) (i : ∀ x H Q, r' x H Q → r x H Q) : CallR X f r' := fun pins s σ H x v Q I rx q => h pins s σ H x v Q I rx (i x H Q q)
theorem MtR.of {f : String} {r r' : V → List V → Hp → VK → Prop} (h : MtR X f r) (i : ∀ x y H Q, r' x y H Q → r x y H Q) : MtR X f r' := fun pins s σ H x xs v us Q I rx rxs q => h pins s σ H x xs v us Q I rx rxs (i x xs H Q q)
theorem SlR.of {r r' : V → Option Int → Option Int → Hp → VK → Prop} (h : SlR X r) (i : ∀ x a b H Q, r' x a b H Q → r x a b H Q) : SlR X r' := fun pins s σ H x v vl vu lo hi sl Q I rx hs pl pu q => h pins s σ H x v vl vu lo hi sl Q I rx hs pl pu (i x lo hi H Q q)
end
/-! ### instances -/
def DCons (T : TD) (TA : TDA) : TDA := fun ρ K => T ρ fun d ρ1 => TA ρ1 fun ds ρ2 => K (d :: ds) ρ2
def DNil : TDA := fun ρ K => K [] ρ
def DOp (R : D2) (T U : TD) : TD := fun ρ K => T ρ fun d ρ1 => U ρ1 fun e ρ2 => R d e fun z => K z ρ2
def DOpN (R : LL2) (T U : TD) : TN := fun ρ K => T ρ fun d ρ1 => U ρ1 fun e ρ2 => R d e fun z => K (.l z) ρ2
def DUn (R : D1) (T : TD) : TD := fun ρ K => T ρ fun d ρ1 => R d fun z => K z ρ1
def DTup (TA : TDA) : TD := fun ρ K => TA ρ fun ds ρ1 => ds.length ≤ 1000 ∧ K (.tuple ds) ρ1
def DLst (TA : TDA) : TN := fun ρ K => TA ρ fun ds ρ1 => ds.length ≤ 1000 ∧ K (.l ds) ρ1
def DCB (R : DL) (TA : TDA) : TD := fun ρ K => TA ρ fun ds ρ1 => R ds fun z => K z ρ1
def DCBN (R : LL) (TA : TDA) : TN := fun ρ K => TA ρ fun ds ρ1 => R ds fun z => K (.l z) ρ1
def DMt (R : PyData → DL) (T : TD) (TA : TDA) : TD := fun ρ K => T ρ fun d ρ1 => TA ρ1 fun ds ρ2 => R d ds fun z => K z ρ2
def DMtN (R : PyData → LL) (T : TD) (TA : TDA) : TN := fun ρ K => T ρ fun d ρ1 => TA ρ1 fun ds ρ2 => R d ds fun z => K (.l z) ρ2
section
variable {C : DC}
theorem DI.newL {ρ : DSt} {σ : L2.St} {H H' : Hp} {xs : List PyData} {p : Addr} (I : DI C ρ σ H) (n : NewL H xs p H') : DI C ρ σ H' ∧ Kp H H' ∧ New C ρ σ H' (.l xs) p := by
  obtain ⟨vs, np, rfl, r⟩ := n
  obtain ⟨h0, ns, nn⟩ := I.h0 np
  exact ⟨I.same (same_new np), Kp.new np, rfl, ⟨p, vs, rfl, upd_same, r.same (same_new np), h0, ns, nn⟩, I.apart np⟩
theorem DI.newM {ρ : DSt} {σ : L2.St} {H H' : Hp} {xs : List (PyData × PyData)} {p : Addr} (I : DI C ρ σ H) (n : NewM H xs p H') : DI C ρ σ H' ∧ Kp H H' ∧ New C ρ σ H' (.m xs) p := by
  obtain ⟨vs, np, rfl, r⟩ := n
  obtain ⟨h0, ns, nn⟩ := I.h0 np
  exact ⟨I.same (same_new np), Kp.new np, rfl, ⟨p, vs, rfl, upd_same, RpD.keep (Kp.new np) _ _ r, h0, ns, nn⟩, I.apart np⟩
instance iNil : RefA C tNil DNil := ⟨fun {σ H Q ρ K} I h k => k [] ρ [] H h (Kp.refl _) I RpL.nil⟩
instance iCons {t : TE} {T : TD} {ta : TA} {TA : TDA} [r : Ref C t T] [ra : RefA C ta TA] : RefA C (tCons t ta) (DCons T TA) := ⟨fun {σ H Q ρ K} I h k =>
  r.go I h fun d ρ1 w H1 q1 k1 I1 r1 => ra.go I1 q1 fun ds ρ2 ws H2 q2 k2 I2 r2 => k _ _ _ _ q2 (k1.trans k2) I2 (RpL.cons (r1.keep k2) r2)⟩
instance iOp {R : D2} {t u : TE} {T U : TD} [r : Ref C t T] [s : Ref C u U] : Ref C (tOp (rD R) t u) (DOp R T U) := ⟨fun {σ H Q ρ K} I h k =>
  r.go I h fun d ρ1 w H1 q1 k1 I1 r1 => s.go I1 q1 fun e ρ2 w2 H2 q2 k2 I2 r2 => ⟨d, e, _, r1.keep k2, r2, q2, fun z w3 H3 q3 s3 r3 => k _ _ _ _ q3 ((k1.trans k2).trans (Kp.same s3)) (I2.same s3) r3⟩⟩
instance iOpN {R : LL2} {t u : TE} {T U : TD} [r : Ref C t T] [s : Ref C u U] : RefN C (tOp (rN R) t u) (DOpN R T U) := ⟨fun {σ H Q ρ K} I h k =>
  r.go I h fun d ρ1 w H1 q1 k1 I1 r1 => s.go I1 q1 fun e ρ2 w2 H2 q2 k2 I2 r2 => ⟨d, e, _, r1.keep k2, r2, q2, fun z p H3 q3 n3 => by
    obtain ⟨I3, k3, N3⟩ := I2.newL n3
    exact k _ _ _ _ q3 ((k1.trans k2).trans k3) I3 N3⟩⟩
instance iUn {R : D1} {t : TE} {T : TD} [r : Ref C t T] : Ref C (tUn (uD R) t) (DUn R T) := ⟨fun {σ H Q ρ K} I h k =>
  r.go I h fun d ρ1 w H1 q1 k1 I1 r1 => ⟨d, _, r1, q1, fun z w3 H3 q3 s3 r3 => k _ _ _ _ q3 (k1.trans (Kp.same s3)) (I1.same s3) r3⟩⟩
theorem rpL_len {H : Hp} : ∀ {ds : List PyData} {xs : List V}, RpL H ds xs → ds.length = xs.length
  | [], xs, h => by
    simp only [RpL] at h
    rw [h]
    rfl
  | d :: ds, xs, h => by
    simp only [RpL] at h
    obtain ⟨x, r, rfl, _, h2⟩ := h
    rw [List.length_cons, List.length_cons, rpL_len h2]
instance iTup {ta : TA} {TA : TDA} [ra : RefA C ta TA] : Ref C (tTup ta) (DTup TA) := ⟨fun {σ H Q ρ K} I h k =>
  ra.go I h fun ds ρ1 ws H1 q1 k1 I1 r1 => ⟨len_ok (by rw [← rpL_len r1]; exact q1.1), fun p np => k _ _ _ _ q1.2 (k1.trans (Kp.new np)) (I1.same (same_new np)) (Rp.tup upd_same (r1.same (same_new np)))⟩⟩
instance iLst {ta : TA} {TA : TDA} [ra : RefA C ta TA] : RefN C (tLst ta) (DLst TA) := ⟨fun {σ H Q ρ K} I h k =>
  ra.go I h fun ds ρ1 ws H1 q1 k1 I1 r1 => ⟨len_ok (by rw [← rpL_len r1]; exact q1.1), fun p np => by
    obtain ⟨I3, k3, N3⟩ := I1.newL ⟨ws, np, rfl, r1⟩
    exact k _ _ _ _ q1.2 (k1.trans k3) I3 N3⟩⟩
instance iDNew : RefN C tDNewK (fun ρ K => K (.m []) ρ) := ⟨fun {σ H Q ρ K} I h k p np => by
    obtain ⟨I3, k3, N3⟩ := I.newM ⟨[], np, rfl, RpD.nil⟩
    exact k _ _ _ _ h k3 I3 N3⟩
instance iCB {R : DL} {ta : TA} {TA : TDA} [ra : RefA C ta TA] : Ref C (tCB (cD R) ta) (DCB R TA) := ⟨fun {σ H Q ρ K} I h k =>
  ra.go I h fun ds ρ1 ws H1 q1 k1 I1 r1 => ⟨ds, _, r1, q1, fun z w3 H3 q3 s3 r3 => k _ _ _ _ q3 (k1.trans (Kp.same s3)) (I1.same s3) r3⟩⟩
instance iCBN {R : LL} {ta : TA} {TA : TDA} [ra : RefA C ta TA] : RefN C (tCB (cN R) ta) (DCBN R TA) := ⟨fun {σ H Q ρ K} I h k =>
  ra.go I h fun ds ρ1 ws H1 q1 k1 I1 r1 => ⟨ds, _, r1, q1, fun z p H3 q3 n3 => by
    obtain ⟨I3, k3, N3⟩ := I1.newL n3
    exact k _ _ _ _ q3 (k1.trans k3) I3 N3⟩⟩
/-- x.name(..) of a text -/
instance iMtS {Kf : PySem.W.Frag} {R : PyData → DL} {t : TE} {T : TD} {ta : TA} {TA : TDA} [r : Ref C t T] [ra : RefA C ta TA] : Ref C (tBM Kf "str" (mD R) t ta) (fun ρ K => DMt R (fun ρ K => T ρ fun d ρ' => (∃ x, d = .str x) ∧ K d ρ') TA ρ K) := ⟨fun {σ H Q ρ K} I h k =>
  r.go I h fun d ρ1 w H1 q1 k1 I1 r1 => ⟨by
    obtain ⟨⟨x, rfl⟩, _⟩ := q1
    simp only [Rp] at r1
    subst r1
    exact rfl, ra.go I1 q1.2 fun ds ρ2 ws H2 q2 k2 I2 r2 => ⟨d, ds, _, r1.keep k2, r2, q2, fun z w3 H3 q3 s3 r3 => k _ _ _ _ q3 ((k1.trans k2).trans (Kp.same s3)) (I2.same s3) r3⟩⟩⟩
instance iMtSN {Kf : PySem.W.Frag} {R : PyData → LL} {t : TE} {T : TD} {ta : TA} {TA : TDA} [r : Ref C t T] [ra : RefA C ta TA] : RefN C (tBM Kf "str" (mN R) t ta) (fun ρ K => DMtN R (fun ρ K => T ρ fun d ρ' => (∃ x, d = .str x) ∧ K d ρ') TA ρ K) := ⟨fun {σ H Q ρ K} I h k =>
  r.go I h fun d ρ1 w H1 q1 k1 I1 r1 => ⟨by
    obtain ⟨⟨x, rfl⟩, _⟩ := q1
    simp only [Rp] at r1
    subst r1
    exact rfl, ra.go I1 q1.2 fun ds ρ2 ws H2 q2 k2 I2 r2 => ⟨d, ds, _, r1.keep k2, r2, q2, fun z p H3 q3 n3 => by
      obtain ⟨I3, k3, N3⟩ := I2.newL n3
      exact k _ _ _ _ q3 ((k1.trans k2).trans k3) I3 N3⟩⟩⟩
end
/-! ### tests, bools as values -/
def isB (d : PyData) (k : Bool → Prop) : Prop := match d with
  | .bool b => k b
  | _ => False
theorem isB_go {H : Hp} {d : PyData} {w : V} {k : Bool → Prop} (h : isB d k) (r : Rp H d w) : ∃ b, w = .bl b ∧ d = .bool b ∧ k b := by
  cases d with
  | bool b =>
    simp only [Rp] at r
    exact ⟨b, r, rfl, h⟩
  | _ => exact h.elim
def DB (T : TD) : TDT := fun ρ K => T ρ fun d ρ1 => isB d fun b => K b ρ1
def DNot (T : TDT) : TDT := fun ρ K => T ρ fun b ρ1 => K (!b) ρ1
def DAnd (T U : TDT) : TDT := fun ρ K => T ρ fun b ρ1 => if b = true then U ρ1 K else K false ρ1
def DOr (T U : TDT) : TDT := fun ρ K => T ρ fun b ρ1 => if b = true then K true ρ1 else U ρ1 K
def DAndV (T U : TD) : TD := fun ρ K => T ρ fun d ρ1 => isB d fun b => if b = true then U ρ1 K else K (.bool false) ρ1
def DOrV (T U : TD) : TD := fun ρ K => T ρ fun d ρ1 => isB d fun b => if b = true then K (.bool true) ρ1 else U ρ1 K
def DNotV (T : TD) : TD := fun ρ K => T ρ fun d ρ1 => isB d fun b => K (.bool (!b)) ρ1
def DIf (T : TDT) (U V : TD) : TD := fun ρ K => T ρ fun b ρ1 => if b = true then U ρ1 K else V ρ1 K
def DChain (R R' : D2) (T U V : TD) : TD := fun ρ K => T ρ fun d ρ1 => U ρ1 fun e ρ2 => R d e fun z => isB z fun b => if b = true then V ρ2 fun f ρ3 => R' e f fun y => K y ρ3 else K (.bool false) ρ2
section
variable {C : DC}
instance iB {t : TE} {T : TD} [r : Ref C t T] : RefT C (tB t) (DB T) := ⟨fun {σ H Q ρ K} I h k =>
  r.go I h fun d ρ1 w H1 q1 k1 I1 r1 => by
    obtain ⟨b, rfl, rfl, q⟩ := isB_go q1 r1
    exact ⟨b, rfl, k _ _ _ q k1 I1⟩⟩
instance iTest {t : TE} {T : TD} [r : Ref C t T] : RefT C (tTest t) (DB T) := ⟨fun {σ H Q ρ K} I h k =>
  r.go I h fun d ρ1 w H1 q1 k1 I1 r1 => by
    obtain ⟨b, rfl, rfl, q⟩ := isB_go q1 r1
    exact ⟨b, rfl, k _ _ _ q k1 I1⟩⟩
instance iNot {t : TT} {T : TDT} [r : RefT C t T] : RefT C (tNot t) (DNot T) := ⟨fun {σ H Q ρ K} I h k =>
  r.go I h fun b ρ1 H1 q1 k1 I1 => k _ _ _ q1 k1 I1⟩
instance iAnd {t u : TT} {T U : TDT} [r : RefT C t T] [s : RefT C u U] : RefT C (tAnd t u) (DAnd T U) := ⟨fun {σ H Q ρ K} I h k =>
  r.go I h fun b ρ1 H1 q1 k1 I1 => by
    cases b with
    | true => exact s.go I1 q1 fun c ρ2 H2 q2 k2 I2 => k _ _ _ q2 (k1.trans k2) I2
    | false => exact k _ _ _ q1 k1 I1⟩
instance iOr {t u : TT} {T U : TDT} [r : RefT C t T] [s : RefT C u U] : RefT C (tOr t u) (DOr T U) := ⟨fun {σ H Q ρ K} I h k =>
  r.go I h fun b ρ1 H1 q1 k1 I1 => by
    cases b with
    | false => exact s.go I1 q1 fun c ρ2 H2 q2 k2 I2 => k _ _ _ q2 (k1.trans k2) I2
    | true => exact k _ _ _ q1 k1 I1⟩
instance iAndV {t u : TE} {T U : TD} [r : Ref C t T] [s : Ref C u U] : Ref C (tAndV t u) (DAndV T U) := ⟨fun {σ H Q ρ K} I h k =>
  r.go I h fun d ρ1 w H1 q1 k1 I1 r1 => by
    obtain ⟨b, rfl, rfl, q⟩ := isB_go q1 r1
    refine ⟨b, rfl, ?_⟩
    cases b with
    | true => exact s.go I1 q fun c ρ2 w2 H2 q2 k2 I2 r2 => k _ _ _ _ q2 (k1.trans k2) I2 r2
    | false => exact k _ _ _ _ q k1 I1 Rp.bl⟩
instance iOrV {t u : TE} {T U : TD} [r : Ref C t T] [s : Ref C u U] : Ref C (tOrV t u) (DOrV T U) := ⟨fun {σ H Q ρ K} I h k =>
  r.go I h fun d ρ1 w H1 q1 k1 I1 r1 => by
    obtain ⟨b, rfl, rfl, q⟩ := isB_go q1 r1
    refine ⟨b, rfl, ?_⟩
    cases b with
    | false => exact s.go I1 q fun c ρ2 w2 H2 q2 k2 I2 r2 => k _ _ _ _ q2 (k1.trans k2) I2 r2
    | true => exact k _ _ _ _ q k1 I1 Rp.bl⟩
instance iNotV {t : TE} {T : TD} [r : Ref C t T] : Ref C (tNotV t) (DNotV T) := ⟨fun {σ H Q ρ K} I h k =>
  r.go I h fun d ρ1 w H1 q1 k1 I1 r1 => by
    obtain ⟨b, rfl, rfl, q⟩ := isB_go q1 r1
    exact ⟨b, rfl, k _ _ _ _ q k1 I1 Rp.bl⟩⟩
instance iIf {t : TT} {u v : TE} {T : TDT} {U V : TD} [r : RefT C t T] [s : Ref C u U] [s' : Ref C v V] : Ref C (tIf t u v) (DIf T U V) := ⟨fun {σ H Q ρ K} I h k =>
  r.go I h fun b ρ1 H1 q1 k1 I1 => by
    cases b with
    | true => exact s.go I1 q1 fun c ρ2 w2 H2 q2 k2 I2 r2 => k _ _ _ _ q2 (k1.trans k2) I2 r2
    | false => exact s'.go I1 q1 fun c ρ2 w2 H2 q2 k2 I2 r2 => k _ _ _ _ q2 (k1.trans k2) I2 r2⟩
instance iChain {R R' : D2} {t u v : TE} {T U V : TD} [r : Ref C t T] [s : Ref C u U] [s' : Ref C v V] : Ref C (tChain (rD R) (rD R') t u v) (DChain R R' T U V) := ⟨fun {σ H Q ρ K} I h k =>
  r.go I h fun d ρ1 w H1 q1 k1 I1 r1 => s.go I1 q1 fun e ρ2 w2 H2 q2 k2 I2 r2 => ⟨d, e, _, r1.keep k2, r2, q2, fun z w3 H3 q3 s3 r3 => by
    obtain ⟨b, rfl, rfl, q⟩ := isB_go q3 r3
    refine ⟨b, rfl, ?_⟩
    have I3 := I2.same s3
    have k3 := (k1.trans k2).trans (Kp.same s3)
    cases b with
    | true => exact s'.go I3 q fun f ρ4 w4 H4 q4 k4 I4 r4 => ⟨e, f, _, (r2.same s3).keep k4, r4, q4, fun y w5 H5 q5 s5 r5 => k _ _ _ _ q5 ((k3.trans k4).trans (Kp.same s5)) (I4.same s5) r5⟩
    | false => exact k _ _ _ _ q k3 I3 Rp.bl⟩⟩
end
/-! ### statements -/
def DNext : TDS := fun DD ρ => DD.nx ρ
def DSeq (T U : TDS) : TDS := fun DD ρ => T { DD with nx := fun ρ' => U DD ρ' } ρ
def DIfS (T : TDT) (U V : TDS) : TDS := fun DD ρ => T ρ fun b ρ1 => if b = true then U DD ρ1 else V DD ρ1
def DRet (T : TD) : TDS := fun DD ρ => T ρ DD.rt
def DDrop (T : TD) : TDS := fun DD ρ => T ρ fun _ ρ1 => DD.nx ρ1
def DSet (i : Nat) (T : TD) : TDS := fun DD ρ => T ρ fun d ρ1 => DD.nx (ρ1.set i (some (.d d)))
def DSetN (i : Nat) (T : TN) : TDS := fun DD ρ => T ρ fun d ρ1 => DD.nx (ρ1.set i (some d))
def DWhile (T : TDT) (U : TDS) : TDS := fun DD ρ => ∃ W : Nat → DSt → Prop, (∃ n, W n ρ) ∧ ∀ n ρ, W n ρ → T ρ fun b ρ1 => if b = true then U { nx := fun ρ' => ∃ m, m < n ∧ W m ρ', rt := DD.rt, bk := DD.nx, ct := fun ρ' => ∃ m, m < n ∧ W m ρ' } ρ1 else DD.nx ρ1
section
variable {C : DC}
instance iNext : RefS C tNext DNext := ⟨fun {D σ H ρ DD} I h n _ _ _ => n _ _ _ h (Kp.refl _) I⟩
instance iSeq {t u : TS} {T U : TDS} [r : RefS C t T] [s : RefS C u U] : RefS C (tSeq t u) (DSeq T U) := ⟨fun {D σ H ρ DD} I h n rt bk ct =>
  r.go (D := { D with nx := u D }) I h (fun ρ1 σ1 H1 q1 k1 I1 => s.go I1 q1 (fun ρ2 σ2 H2 q2 k2 I2 => n _ _ _ q2 (k1.trans k2) I2) (fun d ρ2 w σ2 H2 q2 k2 I2 r2 => rt d _ _ _ _ q2 (k1.trans k2) I2 r2) (fun ρ2 σ2 H2 q2 k2 I2 => bk _ _ _ q2 (k1.trans k2) I2) fun ρ2 σ2 H2 q2 k2 I2 => ct _ _ _ q2 (k1.trans k2) I2) rt bk ct⟩
instance iIfS {t : TT} {u v : TS} {T : TDT} {U V : TDS} [r : RefT C t T] [s : RefS C u U] [s' : RefS C v V] : RefS C (tIfS t u v) (DIfS T U V) := ⟨fun {D σ H ρ DD} I h n rt bk ct =>
  r.go I h fun b ρ1 H1 q1 k1 I1 => by
    cases b with
    | true => exact s.go I1 q1 (fun ρ2 σ2 H2 q2 k2 I2 => n _ _ _ q2 (k1.trans k2) I2) (fun d ρ2 w σ2 H2 q2 k2 I2 r2 => rt d _ _ _ _ q2 (k1.trans k2) I2 r2) (fun ρ2 σ2 H2 q2 k2 I2 => bk _ _ _ q2 (k1.trans k2) I2) fun ρ2 σ2 H2 q2 k2 I2 => ct _ _ _ q2 (k1.trans k2) I2
    | false => exact s'.go I1 q1 (fun ρ2 σ2 H2 q2 k2 I2 => n _ _ _ q2 (k1.trans k2) I2) (fun d ρ2 w σ2 H2 q2 k2 I2 r2 => rt d _ _ _ _ q2 (k1.trans k2) I2 r2) (fun ρ2 σ2 H2 q2 k2 I2 => bk _ _ _ q2 (k1.trans k2) I2) fun ρ2 σ2 H2 q2 k2 I2 => ct _ _ _ q2 (k1.trans k2) I2⟩
instance iRet {t : TE} {T : TD} [r : Ref C t T] : RefS C (tRet t) (DRet T) := ⟨fun {D σ H ρ DD} I h n rt bk ct => r.go I h fun d ρ1 w H1 q1 k1 I1 r1 => rt d _ _ _ _ q1 k1 I1 r1⟩
instance iRetN : RefS C tRetN (fun DD ρ => DD.rt .none ρ) := ⟨fun {D σ H ρ DD} I h n rt bk ct => rt .none _ .non σ H h (Kp.refl _) I Rp.non⟩
instance iDrop {t : TE} {T : TD} [r : Ref C t T] : RefS C (tDrop t) (DDrop T) := ⟨fun {D σ H ρ DD} I h n rt bk ct => r.go I h fun d ρ1 w H1 q1 k1 I1 r1 => n _ _ _ q1 k1 I1⟩
instance iBrk : RefS C tBreak (fun DD ρ => DD.bk ρ) := ⟨fun {D σ H ρ DD} I h n rt bk ct => bk _ _ _ h (Kp.refl _) I⟩
instance iCnt : RefS C tCont (fun DD ρ => DD.ct ρ) := ⟨fun {D σ H ρ DD} I h n rt bk ct => ct _ _ _ h (Kp.refl _) I⟩
instance iSet {i : Nat} {t : TE} {T : TD} [r : Ref C t T] : RefS C (tAsg t (gName i)) (DSet i T) := ⟨fun {D σ H ρ DD} I h n rt bk ct => r.go I h fun d ρ1 w H1 q1 k1 I1 r1 => n _ _ _ q1 k1 (I1.setD r1)⟩
theorem New.mt {ρ : DSt} {σ : L2.St} {H : Hp} {dv : DV} {p : Addr} (n : New C ρ σ H dv p) : dv.mt = true := by
  have h := n.ow
  cases dv <;> first | rfl | cases h
instance iSetN {i : Nat} {t : TE} {T : TN} [r : RefN C t T] : RefS C (tAsg t (gName i)) (DSetN i T) := ⟨fun {D σ H ρ DD} I h n rt bk ct => r.go I h fun dv ρ1 p H1 q1 k1 I1 N1 => n _ _ _ q1 k1 (I1.set N1.dv fun _ j y _ e m => N1.ap j y e m)⟩
instance iWhile {t : TT} {u : TS} {T : TDT} {U : TDS} [r : RefT C t T] [s : RefS C u U] : RefS C (tWhile t u) (DWhile T U) := ⟨fun {D σ H ρ DD} I h n rt bk ct => by
  obtain ⟨W, ⟨m0, w0⟩, hW⟩ := h
  refine ⟨fun m σ' H' => ∃ ρ', DI C ρ' σ' H' ∧ Kp H H' ∧ W m ρ', ⟨m0, ρ, I, Kp.refl _, w0⟩, ?_⟩
  rintro m σ1 H1 ⟨ρ1, I1, k1, w1⟩
  refine r.go I1 (hW m ρ1 w1) fun b ρ2 H2 q2 k2 I2 => ?_
  cases b with
  | true => exact ⟨fun σ3 H3 => ∃ m' ρ3, m' < m ∧ DI C ρ3 σ3 H3 ∧ Kp H H3 ∧ W m' ρ3, fun σ3 H3 ⟨m', ρ3, l, i, k, w⟩ => ⟨m', l, ρ3, i, k, w⟩, s.go I2 q2 (fun ρ3 σ3 H3 ⟨m', l, w3⟩ k3 I3 => ⟨m', ρ3, l, I3, (k1.trans k2).trans k3, w3⟩) (fun d ρ3 w σ3 H3 q3 k3 I3 r3 => rt d _ _ _ _ q3 ((k1.trans k2).trans k3) I3 r3) (fun ρ3 σ3 H3 q3 k3 I3 => n _ _ _ q3 ((k1.trans k2).trans k3) I3) fun ρ3 σ3 H3 ⟨m', l, w3⟩ k3 I3 => ⟨m', ρ3, l, I3, (k1.trans k2).trans k3, w3⟩⟩
  -- ρ3, I3, (k1.trans k2).trans k3, w3⟩) (fun d ρ3 w σ3 H3 q3 k3 I3 r3 => rt d _ _ _ _ q3 ((k1.trans k2).trans k3) I3 r3) (fun ρ3 σ3 H3 q3 k3 I3 => n _ _ _ q3 ((k1.trans k2).trans k3) I3) fun ρ3 σ3 H3 ⟨m', l, w3⟩ k3 I3 => ⟨m', l, ρ3, I3, (k1.trans k2).trans k3, w3⟩
  | false => exact n _ _ _ q2 (k1.trans k2) I2⟩
end
end Dw
end
section
set_option Elab.async false
set_option linter.all false
set_option maxRecDepth 100000
set_option maxHeartbeats 4000000
/-! Tg, part T: Dw: targets, loops, comprehensions, own lists. -/
namespace Dw
open PySem PySem.Spec PyProof.Rows L2 Tg LamX
/-! ### targets -/
abbrev TDG := PyData → DSt → (DSt → Prop) → Prop
abbrev TDGs := List PyData → DSt → (DSt → Prop) → Prop
/-- σ' is σ but for the slots ts -/
def Tch (ts : List Nat) (σ σ' : L2.St) : Prop := σ'.length = σ.length ∧ ∀ i, i ∉ ts → σ'[i]? = σ[i]?
theorem Tch.refl {ts : List Nat} (σ : L2.St) : Tch ts σ σ := ⟨rfl, fun _ _ => rfl⟩
theorem Tch.trans {ts us : List Nat} {σ σ1 σ2 : L2.St} (a : Tch ts σ σ1) (b : Tch us σ1 σ2) : Tch (ts ++ us) σ σ2 := ⟨b.1.trans a.1, fun i h => by
  rw [List.mem_append, not_or] at h
  rw [b.2 i h.2, a.2 i h.1]⟩
class RefG (C : DC) (g : TG) (G : outParam TDG) (ts : outParam (List Nat)) : Prop where
  go : ∀ {σ : L2.St} {H : Hp} {Q : L2.St → Hp → Prop} {ρ : DSt} {K : DSt → Prop} {d : PyData} {w : V}, DI C ρ σ H → Rp H d w → G d ρ K → (∀ ρ' σ' H', K ρ' → Kp H H' → DI C ρ' σ' H' → Tch ts σ σ' → Q σ' H') → g w σ H Q
class RefGs (C : DC) (g : TGs) (G : outParam TDGs) (ts : outParam (List Nat)) : Prop where
  go : ∀ {σ : L2.St} {H : Hp} {Q : L2.St → Hp → Prop} {ρ : DSt} {K : DSt → Prop} {ds : List PyData} {ws : List V}, DI C ρ σ H → RpL H ds ws → G ds ρ K → (∀ ρ' σ' H', K ρ' → Kp H H' → DI C ρ' σ' H' → Tch ts σ σ' → Q σ' H') → g ws σ H Q
def GName (i : Nat) : TDG := fun d ρ K => K (ρ.set i (some (.d d)))
def GNil : TDGs := fun ds ρ K => ds = [] ∧ K ρ
def GCons (G : TDG) (Gs : TDGs) : TDGs := fun ds ρ K => match ds with
  | d :: r => G d ρ fun ρ' => Gs r ρ' K
  | [] => False
def GTup (n : Nat) (Gs : TDGs) : TDG := fun d ρ K => match d with
  | .tuple ds => ds.length = n ∧ Gs ds ρ K
  | _ => False
section
variable {C : DC}
instance igName {i : Nat} : RefG C (gName i) (GName i) [i] := ⟨fun {σ H Q ρ K d w} I r h k => k _ _ _ h (Kp.refl _) (I.setD r) ⟨by rw [List.length_set], fun j hj => List.getElem?_set_ne (fun e => hj (by simp [e]))⟩⟩
instance igNil : RefGs C gNil GNil [] := ⟨fun {σ H Q ρ K ds ws} I r h k => by
  obtain ⟨rfl, h⟩ := h
  simp only [RpL] at r
  exact ⟨r, k _ _ _ h (Kp.refl _) I (Tch.refl _)⟩⟩
instance igCons {g : TG} {gs : TGs} {G : TDG} {Gs : TDGs} {ts us : List Nat} [r : RefG C g G ts] [s : RefGs C gs Gs us] : RefGs C (gCons g gs) (GCons G Gs) (ts ++ us) := ⟨fun {σ H Q ρ K ds ws} I rl h k => by
  cases ds with
  | nil => exact h.elim
  | cons d ds =>
    simp only [RpL] at rl
    obtain ⟨x, xs, rfl, r1, r2⟩ := rl
    exact ⟨x, xs, rfl, r.go I r1 h fun ρ1 σ1 H1 q1 k1 I1 t1 => s.go I1 (RpL.keep k1 _ _ r2) q1 fun ρ2 σ2 H2 q2 k2 I2 t2 => k _ _ _ q2 (k1.trans k2) I2 (t1.trans t2)⟩⟩
instance igTup {Kf : PySem.W.Frag} {n : Nat} {gs : TGs} {Gs : TDGs} {ts : List Nat} [s : RefGs C gs Gs ts] : RefG C (gTup Kf n gs) (GTup n Gs) ts := ⟨fun {σ H Q ρ K d w} I r h k => by
  cases d with
  | tuple ds =>
    simp only [Rp] at r
    obtain ⟨a, xs, rfl, ha, rl⟩ := r
    exact ⟨a, xs, rfl, SqT.of ha, by rw [← rpL_len rl]; exact h.1, s.go I rl h.2 k⟩
  | _ => exact h.elim⟩
/-- e assigned to a target of several names -/
def DAsgG (T : TD) (G : TDG) : TDS := fun DD ρ => T ρ fun d ρ1 => G d ρ1 DD.nx
instance (priority := low) iAsgG {t : TE} {g : TG} {T : TD} {G : TDG} {ts : List Nat} [r : Ref C t T] [s : RefG C g G ts] : RefS C (tAsg t g) (DAsgG T G) := ⟨fun {D σ H ρ DD} I h n rt bk ct =>
  r.go I h fun d ρ1 w H1 q1 k1 I1 r1 => s.go I1 r1 q1 fun ρ2 σ2 H2 q2 k2 I2 _ => n _ _ _ q2 (k1.trans k2) I2⟩
/-- i, j = a, b -/
def DPar (i j : Nat) (TA : TDA) : TDS := fun DD ρ => TA ρ fun ds ρ1 => match ds with
  | [d, e] => DD.nx ((ρ1.set i (some (.d d))).set j (some (.d e)))
  | _ => False
instance iPar {i j : Nat} {ta : TA} {TA : TDA} [r : RefA C ta TA] : RefS C (tPar i j ta) (DPar i j TA) := ⟨fun {D σ H ρ DD} I h n rt bk ct =>
  r.go I h fun ds ρ1 ws H1 q1 k1 I1 r1 => by
    match ds, q1 with
    | [d, e], q1 =>
      simp only [RpL] at r1
      obtain ⟨x, r, rfl, h1, y, r', rfl, h2, rfl⟩ := r1
      exact ⟨x, y, rfl, n _ _ _ q1 k1 ((I1.setD h1).setD h2)⟩⟩
end
/-! ### what is walked -/
structure WalkD (Hs : Hp) (J : It) (items : List PyData) : Prop where
  ex : ∃ (G : Hp → Prop) (Y : Nat → Hp → V → Hp → Prop), Walk J items.length G Y ∧ (∀ H, Kp Hs H → G H) ∧ ∀ i H x H', i < items.length → Kp Hs H → Y i H x H' → Same H H' ∧ ∃ d, items[i]? = some d ∧ Rp H' d x
abbrev TDI := DSt → (List PyData → DSt → Prop) → Prop
class RefI (C : DC) (wi : TI) (T : outParam TDI) : Prop where
  go : ∀ {σ : L2.St} {H : Hp} {R : It → Hp → Prop} {ρ : DSt} {K : List PyData → DSt → Prop}, DI C ρ σ H → T ρ K → (∀ items ρ' J H', K items ρ' → Kp H H' → DI C ρ' σ H' → WalkD H' J items → R J H') → wi σ H R
theorem rpL_get {H : Hp} : ∀ {ds : List PyData} {xs : List V} {i : Nat} {x : V}, RpL H ds xs → xs[i]? = some x → ∃ d, ds[i]? = some d ∧ Rp H d x
  | [], xs, i, x, r, h => by simp only [RpL] at r; subst r; simp at h
  | d :: ds, xs, i, x, r, h => by
    simp only [RpL] at r
    obtain ⟨y, r', rfl, r1, r2⟩ := r
    cases i with
    | zero => simp at h; subst h; exact ⟨d, rfl, r1⟩
    | succ i => simpa using rpL_get r2 (by simpa using h)
theorem rpL_at {H : Hp} : ∀ {ds : List PyData} {xs : List V} {i : Nat} {d : PyData}, RpL H ds xs → ds[i]? = some d → ∃ x, xs[i]? = some x ∧ Rp H d x
  | d :: ds, xs, i, e, r, h => by
    simp only [RpL] at r
    obtain ⟨y, r', rfl, r1, r2⟩ := r
    cases i with
    | zero => simp at h; subst h; exact ⟨y, rfl, r1⟩
    | succ i => simpa using rpL_at r2 (by simpa using h)
def isL (d : PyData) (k : List PyData → Prop) : Prop := match d with
  | .list xs => k xs
  | _ => False
def isT (d : PyData) (k : List PyData → Prop) : Prop := match d with
  | .tuple xs => k xs
  | _ => False
def isS (d : PyData) (k : Str → Prop) : Prop := match d with
  | .str x => k x
  | _ => False
def isI (d : PyData) (k : Int → Prop) : Prop := match d with
  | .int x => k x
  | _ => False
theorem isL_go {d : PyData} {k : List PyData → Prop} (h : isL d k) : ∃ xs, d = .list xs ∧ k xs := by
  cases d <;> first | exact ⟨_, rfl, h⟩ | exact h.elim
theorem isT_go {d : PyData} {k : List PyData → Prop} (h : isT d k) : ∃ xs, d = .tuple xs ∧ k xs := by
  cases d <;> first | exact ⟨_, rfl, h⟩ | exact h.elim
theorem isS_go {d : PyData} {k : Str → Prop} (h : isS d k) : ∃ xs, d = .str xs ∧ k xs := by
  cases d <;> first | exact ⟨_, rfl, h⟩ | exact h.elim
theorem isI_go {d : PyData} {k : Int → Prop} (h : isI d k) : ∃ xs, d = .int xs ∧ k xs := by
  cases d <;> first | exact ⟨_, rfl, h⟩ | exact h.elim
theorem rp_list {H : Hp} {xs : List PyData} {w : V} (r : Rp H (.list xs) w) : ∃ a o vs, w = .ref a ∧ H a = some (.frz o (.lst vs)) ∧ RpL H xs vs := by simpa only [Rp] using r
theorem rp_tup {H : Hp} {xs : List PyData} {w : V} (r : Rp H (.tuple xs) w) : ∃ a vs, w = .ref a ∧ H a = some (.tup vs) ∧ RpL H xs vs := by simpa only [Rp] using r
theorem rp_str {H : Hp} {x : Str} {w : V} (r : Rp H (.str x) w) : w = .str x := by simpa only [Rp] using r
theorem rp_int {H : Hp} {x : Int} {w : V} (r : Rp H (.int x) w) : w = .int x := by simpa only [Rp] using r
theorem rp_bl {H : Hp} {x : Bool} {w : V} (r : Rp H (.bool x) w) : w = .bl x := by simpa only [Rp] using r
theorem rp_non {H : Hp} {w : V} (r : Rp H .none w) : w = .non := by simpa only [Rp] using r
def rngD (lo : Int) (n : Nat) : List PyData := (List.range n).map fun (i : Nat) => PyData.int (lo + i)
def chars (x : Str) : List PyData := x.cps.toList.map fun c => PyData.str ⟨#[c]⟩
section
variable {C : DC} {Kf : PySem.W.Frag}
theorem walkD_list {H : Hp} {xs : List PyData} {a : Addr} {o : Obj} {vs : List V} (ha : H a = some (.frz o (.lst vs))) (r : RpL H xs vs) : WalkD H (Itl Kf a) xs := by
  refine ⟨fun H' => SqL Kf H' a vs, YAt vs, by rw [rpL_len r]; exact walk_list, fun H' k => .inl (.inr ⟨o, k.fz _ _ _ ha⟩), ?_⟩
  rintro i H1 x H2 _ k ⟨rfl, e⟩
  obtain ⟨d, h1, h2⟩ := rpL_get r e
  exact ⟨fun _ _ e => e, d, h1, h2.keep k⟩
theorem walkD_tup {H : Hp} {xs : List PyData} {a : Addr} {vs : List V} (ha : H a = some (.tup vs)) (r : RpL H xs vs) : WalkD H (Itt Kf a) xs := by
  refine ⟨fun H' => SqT Kf H' a vs, YAt vs, by rw [rpL_len r]; exact walk_tup, fun H' k => SqT.of (k.tu _ _ ha), ?_⟩
  rintro i H1 x H2 _ k ⟨rfl, e⟩
  obtain ⟨d, h1, h2⟩ := rpL_get r e
  exact ⟨fun _ _ e => e, d, h1, h2.keep k⟩
theorem walkD_range {H : Hp} {lo : Int} {n : Nat} : WalkD H (Itr lo n) (rngD lo n) := by
  have hl : (rngD lo n).length = n := by simp [rngD]
  refine ⟨fun _ => True, YFn fun i => .int (lo + i), by rw [hl]; exact walk_range, fun _ _ => trivial, ?_⟩
  rintro i H1 x H2 hi k ⟨rfl, rfl⟩
  rw [hl] at hi
  exact ⟨fun _ _ e => e, .int (lo + i), by simp [rngD, hi], Rp.int⟩
theorem walkD_str {H : Hp} {z : Str} : WalkD H (Its z) (chars z) := by
  have hl : (chars z).length = z.cps.size := by simp [chars]
  refine ⟨fun _ => True, _, by rw [hl]; exact walk_str, fun _ _ => trivial, ?_⟩
  rintro i H1 x H2 hi k ⟨rfl, c, hc, rfl⟩
  exact ⟨fun _ _ e => e, .str ⟨#[c]⟩, by simp [chars, hc], Rp.str⟩
def IList (T : TD) : TDI := fun ρ K => T ρ fun d ρ1 => isL d fun xs => K xs ρ1
def ITup (T : TD) : TDI := fun ρ K => T ρ fun d ρ1 => isT d fun xs => K xs ρ1
def IStr (T : TD) : TDI := fun ρ K => T ρ fun d ρ1 => isS d fun x => K (chars x) ρ1
def IRng1 (TA : TDA) : TDI := fun ρ K => TA ρ fun ds ρ1 => match ds with
  | [.int j] => (-(2 ^ 62) ≤ j ∧ j < 2 ^ 62) ∧ K (rngD 0 j.toNat) ρ1
  | _ => False
def IRng2 (TA : TDA) : TDI := fun ρ K => TA ρ fun ds ρ1 => match ds with
  | [.int i, .int j] => (-(2 ^ 62) ≤ i ∧ i < 2 ^ 62 ∧ -(2 ^ 62) ≤ j ∧ j < 2 ^ 62) ∧ K (rngD i (j - i).toNat) ρ1
  | _ => False
instance iiList {t : TE} {T : TD} [r : Ref C t T] : RefI C (iList Kf t) (IList T) := ⟨fun {σ H R ρ K} I h k =>
  r.go I h fun d ρ1 w H1 q1 k1 I1 r1 => by
    obtain ⟨xs, rfl, q⟩ := isL_go q1
    obtain ⟨a, o, vs, rfl, ha, rl⟩ := rp_list r1
    exact ⟨a, rfl, ⟨vs, .inl (.inr ⟨o, ha⟩)⟩, k _ _ _ _ q k1 I1 (walkD_list ha rl)⟩⟩
instance iiTup {t : TE} {T : TD} [r : Ref C t T] : RefI C (L2.iTup Kf t) (ITup T) := ⟨fun {σ H R ρ K} I h k =>
  r.go I h fun d ρ1 w H1 q1 k1 I1 r1 => by
    obtain ⟨xs, rfl, q⟩ := isT_go q1
    obtain ⟨a, vs, rfl, ha, rl⟩ := rp_tup r1
    exact ⟨a, rfl, ⟨vs, SqT.of ha⟩, k _ _ _ _ q k1 I1 (walkD_tup ha rl)⟩⟩
instance iiStr {t : TE} {T : TD} [r : Ref C t T] : RefI C (L2.iStr t) (IStr T) := ⟨fun {σ H R ρ K} I h k =>
  r.go I h fun d ρ1 w H1 q1 k1 I1 r1 => by
    obtain ⟨x, rfl, q⟩ := isS_go q1
    exact ⟨x, rp_str r1, k _ _ _ _ q k1 I1 walkD_str⟩⟩
instance iiRng1 {ta : TA} {TA : TDA} [r : RefA C ta TA] : RefI C (iRng1 ta) (IRng1 TA) := ⟨fun {σ H R ρ K} I h k =>
  r.go I h fun ds ρ1 ws H1 q1 k1 I1 r1 => by
    match ds, q1, r1 with
    | [.int j], q1, r1 =>
      simp only [RpL, Rp] at r1
      obtain ⟨x, r, rfl, rfl, rfl⟩ := r1
      exact ⟨j, rfl, q1.1.1, q1.1.2, k _ _ _ _ q1.2 k1 I1 walkD_range⟩⟩
instance iiRng2 {ta : TA} {TA : TDA} [r : RefA C ta TA] : RefI C (iRng2 ta) (IRng2 TA) := ⟨fun {σ H R ρ K} I h k =>
  r.go I h fun ds ρ1 ws H1 q1 k1 I1 r1 => by
    match ds, q1, r1 with
    | [.int i, .int j], q1, r1 =>
      simp only [RpL, Rp] at r1
      obtain ⟨x, r, rfl, rfl, y, r', rfl, rfl, rfl⟩ := r1
      exact ⟨i, j, rfl, q1.1, k _ _ _ _ q1.2 k1 I1 walkD_range⟩⟩
end
/-! ### for -/
/-- the turns of a for over items -/
def ForB (items : List PyData) (G : TDG) (U : TDS) (DD : DEnds) (ρ1 : DSt) : Prop := ∃ W : Nat → DSt → Prop, W 0 ρ1 ∧ (∀ i x ρ, items[i]? = some x → W i ρ → G x ρ fun ρ2 => U { nx := W (i + 1), rt := DD.rt, bk := DD.nx, ct := W (i + 1) } ρ2) ∧ ∀ ρ, W items.length ρ → DD.nx ρ
def DFor (T : TDI) (G : TDG) (U : TDS) : TDS := fun DD ρ => T ρ fun items ρ1 => ForB items G U DD ρ1
section
variable {C : DC}
instance iFor {wi : TI} {g : TG} {u : TS} {T : TDI} {G : TDG} {U : TDS} {ts : List Nat} [r : RefI C wi T] [s : RefG C g G ts] [s' : RefS C u U] : RefS C (tFor wi g u) (DFor T G U) := ⟨fun {D σ H ρ DD} I h n rt bk ct =>
  r.go I h fun items ρ1 J H1 q1 k1 I1 wd => by
    obtain ⟨W, w0, hs, hd⟩ := q1
    obtain ⟨Gg, Y, wk, hG, hY⟩ := wd.ex
    refine for_it wk (fun i σ' H' => ∃ ρ', DI C ρ' σ' H' ∧ Kp H1 H' ∧ W i ρ') ⟨ρ1, I1, Kp.refl _, w0⟩ (fun i σ' H' _ ⟨ρ', _, k, _⟩ => hG H' k) ?_ ?_
    · rintro i x σ2 H2 H3 hi ⟨ρ2, I2, k2, w2⟩ y
      obtain ⟨s3, d, hd, rd⟩ := hY i H2 x H3 hi k2 y
      have k3 := k2.trans (Kp.same s3)
      refine s.go (I2.same s3) rd (hs i d ρ2 hd w2) fun ρ4 σ4 H4 q4 k4 I4 _ => ?_
      have k14 := k3.trans k4
      exact s'.go I4 q4 (fun ρ5 σ5 H5 q5 k5 I5 => ⟨ρ5, I5, k14.trans k5, q5⟩) (fun d ρ5 w σ5 H5 q5 k5 I5 r5 => rt d _ _ _ _ q5 ((k1.trans k14).trans k5) I5 r5) (fun ρ5 σ5 H5 q5 k5 I5 => n _ _ _ q5 ((k1.trans k14).trans k5) I5) fun ρ5 σ5 H5 q5 k5 I5 => ⟨ρ5, I5, k14.trans k5, q5⟩
    · rintro σ2 H2 ⟨ρ2, I2, k2, w2⟩
      exact n _ _ _ (hd _ w2) (k1.trans k2) I2⟩
end
/-! ### comprehensions -/
def wipeD (ρ : DSt) : List Nat → DSt
  | [] => ρ
  | v :: vs => (wipeD ρ vs).set v none
theorem wipeD_length (ρ : DSt) : ∀ vs : List Nat, (wipeD ρ vs).length = ρ.length
  | [] => rfl
  | v :: vs => by unfold wipeD; rw [List.length_set, wipeD_length ρ vs]
theorem wipeD_some {ρ : DSt} {i : Nat} {x : DV} : ∀ {vs : List Nat}, (wipeD ρ vs)[i]? = some (some x) → ρ[i]? = some (some x) ∧ i ∉ vs
  | [], h => ⟨h, by simp⟩
  | v :: vs, h => by
    unfold wipeD at h
    rcases get_set h with ⟨_, z, _⟩ | ⟨ne, h⟩
    · cases z
    · obtain ⟨h1, h2⟩ := wipeD_some h
      exact ⟨h1, by simp only [List.mem_cons, not_or]; exact ⟨ne, h2⟩⟩
theorem wipe_ne {σ : L2.St} {i : Nat} : ∀ {vs : List Nat}, i ∉ vs → (wipe σ vs)[i]? = σ[i]?
  | [], _ => rfl
  | v :: vs, h => by
    simp only [List.mem_cons, not_or] at h
    unfold wipe
    rw [List.getElem?_set_ne (Ne.symm h.1), wipe_ne h.2]
theorem wipeD_mem {ρ : DSt} {i : Nat} : ∀ {vs : List Nat}, i ∈ vs → (wipeD ρ vs)[i]? = if i < ρ.length then some none else none
  | v :: vs, h => by
    unfold wipeD
    by_cases e : v = i
    · subst e
      by_cases l : v < ρ.length
      · rw [if_pos l, List.getElem?_set_self (by rw [wipeD_length]; exact l)]
      · rw [if_neg l, List.getElem?_eq_none (by rw [List.length_set, wipeD_length]; omega)]
    · rw [List.getElem?_set_ne e]
      rcases List.mem_cons.mp h with h | h
      · exact absurd h.symm e
      · exact wipeD_mem h
theorem wipeD_ne {ρ : DSt} {i : Nat} : ∀ {vs : List Nat}, i ∉ vs → (wipeD ρ vs)[i]? = ρ[i]?
  | [], _ => rfl
  | v :: vs, h => by
    simp only [List.mem_cons, not_or] at h
    unfold wipeD
    rw [List.getElem?_set_ne (Ne.symm h.1), wipeD_ne h.2]
theorem wipeD_wipeD {ρ : DSt} {vs : List Nat} : wipeD (wipeD ρ vs) vs = wipeD ρ vs := by
  apply List.ext_getElem?
  intro i
  by_cases h : i ∈ vs
  · rw [wipeD_mem h, wipeD_mem h, wipeD_length]
  · rw [wipeD_ne h]
section
variable {C : DC}
theorem DI.wiped {ρ : DSt} {σ σ' : L2.St} {H : Hp} {vs : List Nat} (I : DI C ρ σ H) (e : wipe σ vs = wipe σ' vs) : DI C (wipeD ρ vs) σ' H := by
  have same : ∀ i, i ∉ vs → σ[i]? = σ'[i]? := fun i hi => by rw [← wipe_ne (σ := σ) hi, e, wipe_ne hi]
  refine ⟨?_, fun i dv h => ?_, fun i j x y w hi hj mx my h1 h2 => ?_, I.fr, I.sx, I.nx, I.j⟩
  · rw [wipeD_length, I.len, ← wipe_length σ vs, e, wipe_length]
  · obtain ⟨h1, h2⟩ := wipeD_some h
    obtain ⟨w, h3, h4⟩ := I.at_ i dv h1
    exact ⟨w, by rw [← same i h2]; exact h3, h4⟩
  · obtain ⟨a1, a2⟩ := wipeD_some hi
    obtain ⟨b1, b2⟩ := wipeD_some hj
    rw [← same i a2] at h1
    rw [← same j b2] at h2
    exact I.sep i j x y w a1 b1 mx my h1 h2
/-- the frame with one list more that no slot holds -/
def DC.hold (C : DC) (D : Addr) (u : HO) (hD : ¬ C.N D) : DC where
  H0 := C.H0
  S := C.S
  N := fun b => C.N b ∨ b = D
  J := fun H => C.J H ∧ H D = some u
  js := fun H H' s j => ⟨C.js H H' s j.1, s _ _ j.2⟩
  jb := fun H H' p u' hp ld n b j => ⟨C.jb H H' p u' hp ld (fun z => n (.inl z)) b j.1, b _ _ (fun z => n (.inr z.symm)) j.2⟩
theorem Dv.hold {H : Hp} {D : Addr} {u : HO} {hD : ¬ C.N D} {dv : DV} {w : V} (h : Dv C H dv w) (ne : dv.mt = true → w ≠ .ref D) : Dv (C.hold D u hD) H dv w := by
  cases dv with
  | d x => exact h
  | v x => exact h
  | l ys =>
    obtain ⟨a, vs, rfl, h1, h2, h3, h4, h5⟩ := h
    exact ⟨a, vs, rfl, h1, h2, h3, h4, fun z => z.elim h5 fun e => ne rfl (by rw [e])⟩
  | m ys =>
    obtain ⟨a, vs, rfl, h1, h2, h3, h4, h5⟩ := h
    exact ⟨a, vs, rfl, h1, h2, h3, h4, fun z => z.elim h5 fun e => ne rfl (by rw [e])⟩
  | pot a c =>
    obtain ⟨rfl, h1, h2, h5⟩ := h
    exact ⟨rfl, h1, h2, fun z => z.elim h5 fun e => ne rfl (by rw [e])⟩
theorem Dv.unhold {H : Hp} {D : Addr} {u : HO} {hD : ¬ C.N D} {dv : DV} {w : V} (h : Dv (C.hold D u hD) H dv w) : Dv C H dv w ∧ (dv.mt = true → w ≠ .ref D) := by
  cases dv with
  | d x => exact ⟨h, fun z => nomatch z⟩
  | v x => exact ⟨h, fun z => nomatch z⟩
  | l ys =>
    obtain ⟨a, vs, rfl, h1, h2, h3, h4, h5⟩ := h
    exact ⟨⟨a, vs, rfl, h1, h2, h3, h4, fun z => h5 (.inl z)⟩, fun _ e => h5 (.inr (V.ref.inj e))⟩
  | m ys =>
    obtain ⟨a, vs, rfl, h1, h2, h3, h4, h5⟩ := h
    exact ⟨⟨a, vs, rfl, h1, h2, h3, h4, fun z => h5 (.inl z)⟩, fun _ e => h5 (.inr (V.ref.inj e))⟩
  | pot a c =>
    obtain ⟨rfl, h1, h2, h5⟩ := h
    exact ⟨⟨rfl, h1, h2, fun z => h5 (.inl z)⟩, fun _ e => h5 (.inr (V.ref.inj e))⟩
theorem DI.hold {ρ : DSt} {σ : L2.St} {H : Hp} {D : Addr} {u : HO} {hD : ¬ C.N D} (I : DI C ρ σ H) (h : H D = some u) (ap : ∀ (i : Nat) y, ρ[i]? = some (some y) → y.mt = true → σ[i]? ≠ some (some (.ref D))) : DI (C.hold D u hD) ρ σ H := by
  refine ⟨I.len, fun i dv e => ?_, I.sep, I.fr, I.sx, fun b hb => ?_, I.j, h⟩
  · obtain ⟨w, h1, h2⟩ := I.at_ i dv e
    exact ⟨w, h1, h2.hold fun m z => ap i dv e m (by rw [h1, z])⟩
  · rcases hb with hb | hb
    · exact I.nx b hb
    · exact ⟨_, hb ▸ h⟩
theorem DI.unhold {ρ : DSt} {σ : L2.St} {H : Hp} {D : Addr} {u : HO} {hD : ¬ C.N D} (I : DI (C.hold D u hD) ρ σ H) : DI C ρ σ H ∧ H D = some u ∧ ∀ (i : Nat) y, ρ[i]? = some (some y) → y.mt = true → σ[i]? ≠ some (some (.ref D)) := by
  refine ⟨⟨I.len, fun i dv e => ?_, I.sep, I.fr, I.sx, fun b hb => I.nx b (.inl hb), I.j.1⟩, I.j.2, fun i y e m z => ?_⟩
  · obtain ⟨w, h1, h2⟩ := I.at_ i dv e
    exact ⟨w, h1, h2.unhold.1⟩
  · obtain ⟨w, h1, h2⟩ := I.at_ i y e
    rw [z] at h1
    cases h1
    exact h2.unhold.2 m rfl
end
/-- the turns of a comprehension over items -/
def LcB (items : List PyData) (G : TDG) (ts : List Nat) (TT : TDT) (TE : TD) (vs : List Nat) (ρ1 : DSt) (K : DV → DSt → Prop) : Prop := items.length ≤ 100000 ∧ ts.all (vs.contains ·) = true ∧ ∃ W : Nat → List PyData → DSt → Prop, W 0 [] (wipeD ρ1 vs) ∧
  (∀ i x acc ρ, items[i]? = some x → W i acc ρ → G x ρ fun ρ2 => TT ρ2 fun b ρ3 => if b = true then TE ρ3 fun d ρ4 => W (i + 1) (acc ++ [d]) (wipeD ρ4 vs) else W (i + 1) acc (wipeD ρ3 vs)) ∧ ∀ acc ρ, W items.length acc ρ → K (.l acc) ρ
def DLc (T : TDI) (G : TDG) (ts : List Nat) (TT : TDT) (TE : TD) (vs : List Nat) : TN := fun ρ K => T ρ fun items ρ1 => LcB items G ts TT TE vs ρ1 K
theorem rpL_snoc {H : Hp} {d : PyData} {w : V} (rd : Rp H d w) : ∀ {ds : List PyData} {xs : List V}, RpL H ds xs → RpL H (ds ++ [d]) (xs ++ [w])
  | [], xs, h => by
    simp only [RpL] at h
    subst h
    exact RpL.cons rd RpL.nil
  | e :: ds, xs, h => by
    simp only [RpL] at h
    obtain ⟨x, r, rfl, h1, h2⟩ := h
    exact RpL.cons h1 (rpL_snoc rd h2)
section
variable {C : DC}
theorem wipe_wipe {σ : L2.St} {vs : List Nat} : wipe (wipe σ vs) vs = wipe σ vs := by
  apply List.ext_getElem?
  intro i
  by_cases h : i ∈ vs
  · have nn : ∀ (τ : L2.St), (wipe τ vs)[i]? = if i < τ.length then some none else none := fun τ => by
      have hl := wipe_length τ vs
      split
      · rename_i hi
        have hi2 : i < (wipe τ vs).length := by omega
        rw [List.getElem?_eq_getElem hi2]
        cases q : (wipe τ vs)[i] with
        | none => rfl
        | some x => exact absurd h (wipe_some (σ := τ) (x := x) (by rw [List.getElem?_eq_getElem hi2, q])).2
      · rw [List.getElem?_eq_none (by omega)]
    rw [nn, nn, wipe_length]
  · rw [wipe_ne h]
theorem wipe_tch {σ σ2 : L2.St} {ts vs : List Nat} (t : Tch ts (wipe σ vs) σ2) (hs : ts.all (vs.contains ·) = true) : wipe σ2 vs = wipe σ vs := by
  have sub : ∀ i, i ∈ ts → i ∈ vs := fun i hi => by
    have := List.all_eq_true.mp hs i hi
    simpa using this
  rw [← wipe_wipe (σ := σ)]
  apply List.ext_getElem?
  intro i
  by_cases h : i ∈ vs
  · have nn : ∀ (τ : L2.St), (wipe τ vs)[i]? = if i < τ.length then some none else none := fun τ => by
      have hl := wipe_length τ vs
      split
      · rename_i hi
        have hi2 : i < (wipe τ vs).length := by omega
        rw [List.getElem?_eq_getElem hi2]
        cases q : (wipe τ vs)[i] with
        | none => rfl
        | some x => exact absurd h (wipe_some (σ := τ) (x := x) (by rw [List.getElem?_eq_getElem hi2, q])).2
      · rw [List.getElem?_eq_none (by omega)]
    rw [nn, nn, t.1]
  · rw [wipe_ne h, wipe_ne h, t.2 i (fun z => h (sub i z))]
instance iLc {wi : TI} {g : TG} {tt : TT} {te : TE} {vs ts : List Nat} {T : TDI} {G : TDG} {TT : TDT} {TE : TD} [r : RefI C wi T] [s : ∀ C', RefG C' g G ts] [s1 : ∀ C', RefT C' tt TT] [s2 : ∀ C', Ref C' te TE] : RefN C (tLc wi g tt te vs) (DLc T G ts TT TE vs) := ⟨fun {σ H Q ρ K} I h k =>
  r.go I h fun items ρ1 J H1 q1 k1 I1 wd D nD => by
    obtain ⟨hl, hts, W, w0, hs, hd⟩ := q1
    obtain ⟨Gg, Y, wk, hG, hY⟩ := wd.ex
    obtain ⟨n0, ns, nn⟩ := I1.h0 nD
    have I1w : DI C (wipeD ρ1 vs) (wipe σ vs) (upd H1 D (.lst [])) := (I1.wiped (σ' := wipe σ vs) wipe_wipe.symm).same (same_new nD)
    have ap0 : ∀ (i : Nat) y, (wipeD ρ1 vs)[i]? = some (some y) → y.mt = true → (wipe σ vs)[i]? ≠ some (some (.ref D)) := (I1.wiped (σ' := wipe σ vs) wipe_wipe.symm).apart nD
    refine lc_it wk (fun i H' => ∃ ρ' acc vsL, i = i ∧ acc.length ≤ i ∧ DI (C.hold D (.lst vsL) nn) ρ' (wipe σ vs) H' ∧ RpL H' acc vsL ∧ Kp H1 H' ∧ W i acc ρ' ∧ wipeD ρ' vs = ρ') ⟨_, [], [], rfl, Nat.le_refl _, I1w.hold upd_same ap0, RpL.nil, Kp.new nD, w0, ?_⟩ (fun i H' _ ⟨_, _, _, _, _, _, _, k, _⟩ => hG H' k) ?_ ?_
    · exact wipeD_wipeD
    · rintro i x H2 H3 hi ⟨ρ2, acc, vsL, _, la, I2, ra, k2, w2, e2⟩ y
      obtain ⟨s3, d, hd, rd⟩ := hY i H2 x H3 hi k2 y
      have k3 := k2.trans (Kp.same s3)
      refine (s _).go (I2.same s3) rd (hs i d acc ρ2 hd w2) fun ρ4 σ4 H4 q4 k4 I4 t4 => ⟨wipe_tch t4 hts, ?_⟩
      have wt := wipe_tch t4 hts
      refine (s1 _).go I4 q4 fun b ρ5 H5 q5 k5 I5 => ?_
      have k15 := (k3.trans k4).trans k5
      have ra5 : RpL H5 acc vsL := RpL.keep (((Kp.same s3).trans k4).trans k5) _ _ ra
      cases b with
      | true =>
        refine (s2 _).go I5 q5 fun z ρ6 w6 H6 q6 k6 I6 r6 => ?_
        obtain ⟨J6, hD6, ap6⟩ := I6.unhold
        have J7 := J6.wiped (vs := vs) (σ' := wipe σ vs) (by rw [wt, wipe_wipe])
        have ap7 : ∀ (i : Nat) y, (wipeD ρ6 vs)[i]? = some (some y) → y.mt = true → (wipe σ vs)[i]? ≠ some (some (.ref D)) := fun i y e m => by
          obtain ⟨e1, e2⟩ := wipeD_some e
          rw [← wt, wipe_ne e2]
          exact ap6 i y e1 m
        have kD := kp_but hD6 True.intro (But.upd (p := D) (H := H6) (o := .lst (vsL ++ [w6])))
        have J8 := J7.but hD6 True.intro (But.upd (o := .lst (vsL ++ [w6]))) n0 ns nn ap7
        refine ⟨vsL, hD6, ?_, _, acc ++ [z], vsL ++ [w6], rfl, ?_, J8.hold upd_same ap7, RpL.keep kD _ _ (rpL_snoc r6 (RpL.keep k6 _ _ ra5)), (k15.trans k6).trans kD, q6, wipeD_wipeD⟩
        · rw [← rpL_len ra, sizeLine_eq]
          omega
        · rw [List.length_append]
          show _ + 1 ≤ _
          omega
      | false =>
        obtain ⟨J6, hD6, ap6⟩ := I5.unhold
        have J7 := J6.wiped (vs := vs) (σ' := wipe σ vs) (by rw [wt, wipe_wipe])
        have ap7 : ∀ (i : Nat) y, (wipeD ρ5 vs)[i]? = some (some y) → y.mt = true → (wipe σ vs)[i]? ≠ some (some (.ref D)) := fun i y e m => by
          obtain ⟨e1, e2⟩ := wipeD_some e
          rw [← wt, wipe_ne e2]
          exact ap6 i y e1 m
        exact ⟨_, acc, vsL, rfl, by omega, J7.hold hD6 ap7, ra5, k15, q5, wipeD_wipeD⟩
    · rintro H2 ⟨ρ2, acc, vsL, _, la, I2, ra, k2, w2, e2⟩
      obtain ⟨J2, hD2, ap2⟩ := I2.unhold
      have J3 := J2.wiped (vs := vs) (σ' := σ) wipe_wipe
      rw [e2] at J3
      refine k _ _ _ _ (hd acc ρ2 w2) (k1.trans k2) J3 ⟨rfl, ⟨D, vsL, rfl, hD2, ra, n0, ns, nn⟩, fun i y e m => ?_⟩
      rw [← e2] at e
      obtain ⟨e1, e3⟩ := wipeD_some e
      rw [← wipe_ne e3]
      exact ap2 i y e1 m⟩
end
end Dw
end
section
set_option Elab.async false
set_option linter.all false
set_option maxRecDepth 100000
set_option maxHeartbeats 4000000
/-! Tg, part U: Dw: the operations. -/
namespace Dw
open PySem PySem.Spec PyProof.Rows L2 Tg LamX
def RInt (f : Int → Int → PyData) : D2 := fun d e K => isI d fun i => isI e fun j => K (f i j)
def RIntC (P : Int → Int → Prop) (f : Int → Int → PyData) : D2 := fun d e K => isI d fun i => isI e fun j => P i j ∧ K (f i j)
def RStr (f : Str → Str → PyData) : D2 := fun d e K => isS d fun i => isS e fun j => K (f i j)
def RCatS : D2 := fun d e K => isS d fun i => isS e fun j => i.length + j.length ≤ 16777216 ∧ K (.str (i ++ j))
/-- == of scalars -/
def eqC : PyData → PyData → Option Bool
  | .none, .none => some true
  | .none, .int _ => some false
  | .int _, .none => some false
  | .none, .bool _ => some false
  | .bool _, .none => some false
  | .none, .str _ => some false
  | .str _, .none => some false
  | .int i, .int j => some (decide (i = j))
  | .bool i, .bool j => some (decide (i = j))
  | .str i, .str j => some (decide (i = j))
  | .int _, .str _ => some false
  | .str _, .int _ => some false
  | .bool _, .str _ => some false
  | .str _, .bool _ => some false
  | _, _ => none
def REq : D2 := fun d e K => match eqC d e with
  | some b => K (.bool b)
  | none => False
def RNe : D2 := fun d e K => match eqC d e with
  | some b => K (.bool (!b))
  | none => False
def isNone : PyData → Bool
  | .none => true
  | _ => false
def RIsN : D2 := fun d e K => isNone e = true ∧ K (.bool (isNone d))
def RNotN : D2 := fun d e K => isNone e = true ∧ K (.bool (!isNone d))
/-- a sign in a text -/
def RInS : D2 := fun d e K => isS d fun x => isS e fun z => ∃ c, x = ⟨#[c]⟩ ∧ K (.bool (decide (c ∈ z.cps.toList)))
def flD : PyData → Bool
  | .none | .bool _ | .int _ | .str _ => true
  | _ => false
def eqF : PyData → PyData → Bool
  | .none, .none => true
  | .bool a, .bool b => a == b
  | .bool a, .int b => (if a then 1 else 0) == b
  | .int a, .bool b => a == (if b then 1 else 0)
  | .int a, .int b => a == b
  | .str a, .str b => a == b
  | _, _ => false
def inF (x : PyData) (xs : List PyData) : Bool := xs.any fun y => eqF y x
def RIn (neg : Bool) : D2 := fun d e K => flD d = true ∧ match e with
  | .list xs => xs.all flD = true ∧ K (.bool (if neg then !inF d xs else inF d xs))
  | .tuple xs => xs.all flD = true ∧ K (.bool (if neg then !inF d xs else inF d xs))
  | _ => False
def RIxS : D2 := fun d e K => isS d fun z => isI e fun i => z.length ≤ 16777216 ∧ ∃ c, atI z.cps.toList i = some c ∧ K (.str ⟨#[c]⟩)
def RIx : D2 := fun d e K => isI e fun i => match d with
  | .list xs => ∃ x, atI xs i = some x ∧ K x
  | .tuple xs => ∃ x, atI xs i = some x ∧ K x
  | .str z => z.length ≤ 16777216 ∧ ∃ c, atI z.cps.toList i = some c ∧ K (.str ⟨#[c]⟩)
  | _ => False
def RSlS : PyData → Option Int → Option Int → (PyData → Prop) → Prop := fun d lo hi K => isS d fun z => z.length ≤ 16777216 ∧ K (.str (cutS z lo hi))
section
variable {X : Cx}
theorem opD_int {f : Value → Value → Sem Value} {g : Int → Int → V} {G : Int → Int → PyData} (h : OpR X f (rI0 g)) (hg : ∀ i j H, Rp H (G i j) (g i j)) : OpR X f (rD (RInt G)) := OpR.of h fun x y H Q q => by
  obtain ⟨d, e, K, r1, r2, q, k⟩ := q
  obtain ⟨i, rfl, q1⟩ := isI_go q
  obtain ⟨j, rfl, q2⟩ := isI_go q1
  exact ⟨i, j, rp_int r1, rp_int r2, k _ _ _ q2 (fun _ _ e => e) (hg i j H)⟩
theorem opD_intC {f : Value → Value → Sem Value} {P : Int → Int → Prop} {g : Int → Int → V} {G : Int → Int → PyData} (h : OpR X f (rI P g)) (hg : ∀ i j H, Rp H (G i j) (g i j)) : OpR X f (rD (RIntC P G)) := OpR.of h fun x y H Q q => by
  obtain ⟨d, e, K, r1, r2, q, k⟩ := q
  obtain ⟨i, rfl, q1⟩ := isI_go q
  obtain ⟨j, rfl, q2⟩ := isI_go q1
  exact ⟨i, j, rp_int r1, rp_int r2, q2.1, k _ _ _ q2.2 (fun _ _ e => e) (hg i j H)⟩
theorem dAdd : OpR X (binaryOp .Add) (rD (RInt fun i j => .int (i + j))) := opD_int op_add fun _ _ _ => Rp.int
theorem dSub : OpR X (binaryOp .Sub) (rD (RInt fun i j => .int (i - j))) := opD_int op_sub fun _ _ _ => Rp.int
theorem dMul : OpR X (binaryOp .Mult) (rD (RIntC CMul fun i j => .int (i * j))) := opD_intC op_mul fun _ _ _ => Rp.int
theorem dMod : OpR X (binaryOp .Mod) (rD (RIntC (fun _ j => 0 < j) fun i j => .int (i % j))) := opD_intC op_mod fun _ _ _ => Rp.int
theorem dFdiv : OpR X (binaryOp .FloorDiv) (rD (RIntC CDiv fun i j => .int (i / j))) := opD_intC op_fdiv fun _ _ _ => Rp.int
theorem dPow : OpR X (binaryOp .Pow) (rD (RIntC CPow fun i j => .int (i ^ j.toNat))) := opD_intC op_pow fun _ _ _ => Rp.int
theorem dLt : OpR X (compareOp .Lt) (rD (RInt fun i j => .bool (decide (i < j)))) := opD_int op_lt fun _ _ _ => Rp.bl
theorem dLe : OpR X (compareOp .LtE) (rD (RInt fun i j => .bool (decide (i ≤ j)))) := opD_int op_le fun _ _ _ => Rp.bl
theorem dGt : OpR X (compareOp .Gt) (rD (RInt fun i j => .bool (decide (j < i)))) := opD_int op_gt fun _ _ _ => Rp.bl
theorem dGe : OpR X (compareOp .GtE) (rD (RInt fun i j => .bool (decide (j ≤ i)))) := opD_int op_ge fun _ _ _ => Rp.bl
theorem dAddS : OpR X (binaryOp .Add) (rD RCatS) := OpR.of op_add_str fun x y H Q q => by
  obtain ⟨d, e, K, r1, r2, q, k⟩ := q
  obtain ⟨i, rfl, q1⟩ := isS_go q
  obtain ⟨j, rfl, q2⟩ := isS_go q1
  exact ⟨i, j, rp_str r1, rp_str r2, by rw [sizeLine_eq]; exact q2.1, k _ _ _ q2.2 (fun _ _ e => e) Rp.str⟩
theorem dLeS : OpR X (compareOp .LtE) (rD (RStr fun i j => .bool (!decide (j.cps.toList < i.cps.toList)))) := OpR.of op_le_str fun x y H Q q => by
  obtain ⟨d, e, K, r1, r2, q, k⟩ := q
  obtain ⟨i, rfl, q1⟩ := isS_go q
  obtain ⟨j, rfl, q2⟩ := isS_go q1
  exact ⟨i, j, rp_str r1, rp_str r2, k _ _ _ q2 (fun _ _ e => e) Rp.bl⟩
theorem eqC_go {H : Hp} {d e : PyData} {x y : V} {b : Bool} (h : eqC d e = some b) (r1 : Rp H d x) (r2 : Rp H e y) : scal x y = true ∧ decide (x = y) = b := by
  cases d <;> cases e <;> first
    | (simp only [eqC, reduceCtorEq] at h; done)
    | (simp only [Rp] at r1 r2
       subst r1 r2
       simp only [eqC, Option.some.injEq] at h
       subst h
       exact ⟨rfl, by simp⟩)
theorem dEq : OpR X (compareOp .Eq) (rD REq) := OpR.of op_eq fun x y H Q q => by
  obtain ⟨d, e, K, r1, r2, q, k⟩ := q
  unfold REq at q
  split at q
  · rename_i b hb
    obtain ⟨h1, h2⟩ := eqC_go hb r1 r2
    exact ⟨h1, by rw [h2]; exact k _ _ _ q (fun _ _ e => e) Rp.bl⟩
  · exact q.elim
theorem dNe : OpR X (compareOp .NotEq) (rD RNe) := OpR.of op_ne fun x y H Q q => by
  obtain ⟨d, e, K, r1, r2, q, k⟩ := q
  unfold RNe at q
  split at q
  · rename_i b hb
    obtain ⟨h1, h2⟩ := eqC_go hb r1 r2
    exact ⟨h1, by rw [h2]; exact k _ _ _ q (fun _ _ e => e) Rp.bl⟩
  · exact q.elim
theorem non_go {H : Hp} {d : PyData} {x : V} (r : Rp H d x) : decide (x = .non) = isNone d := by
  cases d <;> simp only [Rp] at r
  case none => subst r; rfl
  case bool => subst r; rfl
  case int => subst r; rfl
  case str => subst r; rfl
  case list => obtain ⟨a, o, xs, rfl, _⟩ := r; rfl
  case tuple => obtain ⟨a, xs, rfl, _⟩ := r; rfl
  case dict => rcases r with ⟨a, o, xs, rfl, _⟩ | ⟨_, a, o, rfl, _⟩ <;> rfl
theorem isNone_go {d : PyData} (h : isNone d = true) : d = .none := by cases d <;> first | rfl | cases h
theorem dIsN : OpR X (compareOp .Is) (rD RIsN) := OpR.of op_isN fun x y H Q q => by
  obtain ⟨d, e, K, r1, r2, ⟨h1, q⟩, k⟩ := q
  rw [isNone_go h1] at r2
  exact ⟨rp_non r2, by rw [non_go r1]; exact k _ _ _ q (fun _ _ e => e) Rp.bl⟩
theorem dNotN : OpR X (compareOp .IsNot) (rD RNotN) := OpR.of op_notN fun x y H Q q => by
  obtain ⟨d, e, K, r1, r2, ⟨h1, q⟩, k⟩ := q
  rw [isNone_go h1] at r2
  exact ⟨rp_non r2, by rw [non_go r1]; exact k _ _ _ q (fun _ _ e => e) Rp.bl⟩
theorem dInS : OpR X (compareOp .In) (rD RInS) := OpR.of op_inS fun x y H Q q => by
  obtain ⟨d, e, K, r1, r2, q, k⟩ := q
  obtain ⟨i, rfl, q1⟩ := isS_go q
  obtain ⟨j, rfl, c, rfl, q2⟩ := isS_go q1
  exact ⟨c, j, rp_str r1, rp_str r2, k _ _ _ q2 (fun _ _ e => e) Rp.bl⟩
theorem fl_go {H : Hp} {d : PyData} {x : V} (h : flD d = true) (r : Rp H d x) : flatV x = true := by
  cases d <;> first | (simp only [flD, Bool.false_eq_true] at h; done) | (simp only [Rp] at r; subst r; rfl)
theorem eqF_go {H : Hp} {d e : PyData} {x y : V} (h1 : flD d = true) (h2 : flD e = true) (r1 : Rp H d x) (r2 : Rp H e y) : eqV x y = eqF d e := by
  cases d <;> first | (simp only [flD, Bool.false_eq_true] at h1; done) | (cases e <;> first | (simp only [flD, Bool.false_eq_true] at h2; done) | (simp only [Rp] at r1 r2; subst r1 r2; rfl))
theorem inF_go {H : Hp} {d : PyData} {x : V} (h : flD d = true) (r : Rp H d x) : ∀ {xs : List PyData} {vs : List V}, xs.all flD = true → RpL H xs vs → vs.all flatV = true ∧ inV x vs = inF d xs
  | [], vs, _, rl => by simp only [RpL] at rl; subst rl; exact ⟨rfl, rfl⟩
  | e :: xs, vs, hx, rl => by
    simp only [RpL] at rl
    obtain ⟨y, r', rfl, r1, r2⟩ := rl
    rw [List.all_cons, Bool.and_eq_true] at hx
    obtain ⟨a, b⟩ := inF_go h r hx.2 r2
    refine ⟨by rw [List.all_cons, a, fl_go hx.1 r1]; rfl, ?_⟩
    unfold inV inF at b ⊢
    rw [List.any_cons, List.any_cons, b, eqF_go hx.1 h r1 r]
theorem dIn_go {neg : Bool} {x y : V} {H : Hp} {Q : VK} (q : rD (RIn neg) x y H Q) : rIn X.K neg x y H Q := by
  obtain ⟨d, e, K, r1, r2, ⟨h1, q⟩, k⟩ := q
  cases e with
  | list xs =>
    obtain ⟨a, o, vs, rfl, ha, rl⟩ := rp_list r2
    obtain ⟨h2, h3⟩ := inF_go h1 r1 q.1 rl
    exact ⟨a, vs, rfl, .inl (.inl (.inr ⟨o, ha⟩)), fl_go h1 r1, h2, by rw [h3]; exact k _ _ _ q.2 (fun _ _ e => e) Rp.bl⟩
  | tuple xs =>
    obtain ⟨a, vs, rfl, ha, rl⟩ := rp_tup r2
    obtain ⟨h2, h3⟩ := inF_go h1 r1 q.1 rl
    exact ⟨a, vs, rfl, .inr (SqT.of ha), fl_go h1 r1, h2, by rw [h3]; exact k _ _ _ q.2 (fun _ _ e => e) Rp.bl⟩
  | _ => exact q.elim
theorem dIn : OpR X (compareOp .In) (rD (RIn false)) := OpR.of op_in_seq fun x y H Q q => dIn_go q
theorem dNotIn : OpR X (compareOp .NotIn) (rD (RIn true)) := OpR.of op_notIn_seq fun x y H Q q => dIn_go q
theorem dNeg : UnR X (unaryOp .USub) (uD fun d K => isI d fun i => K (.int (-i))) := UnR.of un_neg fun x H Q q => by
  obtain ⟨d, K, r1, q, k⟩ := q
  obtain ⟨i, rfl, q1⟩ := isI_go q
  exact ⟨i, rp_int r1, k _ _ _ q1 (fun _ _ e => e) Rp.int⟩
theorem at_go {H : Hp} {xs : List PyData} {vs : List V} {i : Int} {x : PyData} (rl : RpL H xs vs) (h : atI xs i = some x) : ∃ v, atI vs i = some v ∧ Rp H x v := by
  unfold atI at h ⊢
  rw [← rpL_len rl]
  cases q : ixN xs.length i with
  | none => rw [q] at h; cases h
  | some j =>
    rw [q] at h
    obtain ⟨v, h1, h2⟩ := rpL_at rl (show xs[j]? = some x from h)
    exact ⟨v, h1, h2⟩
theorem dIx : IxR X (rD RIx) := IxR.of ix_seq fun x y H Q q => by
  obtain ⟨d, e, K, r1, r2, q, k⟩ := q
  obtain ⟨i, rfl, q1⟩ := isI_go q
  cases rp_int r2
  cases d with
  | list xs =>
    obtain ⟨z, h1, q1⟩ := q1
    obtain ⟨a, o, vs, rfl, ha, rl⟩ := rp_list r1
    obtain ⟨v, h2, h3⟩ := at_go rl h1
    exact .inl ⟨a, vs, i, v, rfl, rfl, .inl (.inr ⟨o, ha⟩), h2, k _ _ _ q1 (fun _ _ e => e) h3⟩
  | tuple xs =>
    obtain ⟨z, h1, q1⟩ := q1
    obtain ⟨a, vs, rfl, ha, rl⟩ := rp_tup r1
    obtain ⟨v, h2, h3⟩ := at_go rl h1
    exact .inr (.inl ⟨a, vs, i, v, rfl, rfl, SqT.of ha, h2, k _ _ _ q1 (fun _ _ e => e) h3⟩)
  | str z =>
    obtain ⟨hz, c, h1, q1⟩ := q1
    exact .inr (.inr ⟨z, i, c, rp_str r1, rfl, by rw [sizeLine_eq]; exact hz, h1, k _ _ _ q1 (fun _ _ e => e) Rp.str⟩)
  | _ => exact q1.elim
theorem dSlS : SlR X (sD RSlS) := SlR.of sl_str fun x lo hi H Q q => by
  obtain ⟨d, K, r1, q, k⟩ := q
  obtain ⟨z, rfl, q1⟩ := isS_go q
  exact ⟨z, rp_str r1, by rw [sizeLine_eq]; exact q1.1, k _ _ _ q1.2 (fun _ _ e => e) Rp.str⟩
end
/-! ### slices -/
abbrev TDO := DSt → (Option Int → DSt → Prop) → Prop
class RefO (C : DC) (t : TO) (T : outParam TDO) : Prop where
  go : ∀ {σ : L2.St} {H : Hp} {Q : Option Int → Hp → Prop} {ρ : DSt} {K : Option Int → DSt → Prop}, DI C ρ σ H → T ρ K → (∀ b ρ' H', K b ρ' → Kp H H' → DI C ρ' σ H' → Q b H') → t σ H Q
def ONone : TDO := fun ρ K => K none ρ
def OSome (T : TD) : TDO := fun ρ K => T ρ fun d ρ1 => isI d fun i => K (some i) ρ1
def DSl (R : PyData → Option Int → Option Int → (PyData → Prop) → Prop) (T : TD) (TL TH : TDO) : TD := fun ρ K => T ρ fun d ρ1 => TL ρ1 fun lo ρ2 => TH ρ2 fun hi ρ3 => R d lo hi fun z => K z ρ3
def DSlN (R : PyData → Option Int → Option Int → (List PyData → Prop) → Prop) (T : TD) (TL TH : TDO) : TN := fun ρ K => T ρ fun d ρ1 => TL ρ1 fun lo ρ2 => TH ρ2 fun hi ρ3 => R d lo hi fun z => K (.l z) ρ3
section
variable {C : DC}
instance ioNone : RefO C tNoPart ONone := ⟨fun {σ H Q ρ K} I h k => k none ρ H h (Kp.refl _) I⟩
instance ioSome {t : TE} {T : TD} [r : Ref C t T] : RefO C (tPart t) (OSome T) := ⟨fun {σ H Q ρ K} I h k =>
  r.go I h fun d ρ1 w H1 q1 k1 I1 r1 => by
    obtain ⟨i, rfl, q⟩ := isI_go q1
    exact ⟨i, rp_int r1, k _ _ _ q k1 I1⟩⟩
instance iSl {R : PyData → Option Int → Option Int → (PyData → Prop) → Prop} {t : TE} {tl th : TO} {T : TD} {TL TH : TDO} [r : Ref C t T] [s : RefO C tl TL] [s' : RefO C th TH] : Ref C (L2.tSl (sD R) t tl th) (DSl R T TL TH) := ⟨fun {σ H Q ρ K} I h k =>
  r.go I h fun d ρ1 w H1 q1 k1 I1 r1 => s.go I1 q1 fun lo ρ2 H2 q2 k2 I2 => s'.go I2 q2 fun hi ρ3 H3 q3 k3 I3 => ⟨d, _, r1.keep (k2.trans k3), q3, fun z w4 H4 q4 s4 r4 => k _ _ _ _ q4 ((k1.trans (k2.trans k3)).trans (Kp.same s4)) (I3.same s4) r4⟩⟩
instance iSlN {R : PyData → Option Int → Option Int → (List PyData → Prop) → Prop} {t : TE} {tl th : TO} {T : TD} {TL TH : TDO} [r : Ref C t T] [s : RefO C tl TL] [s' : RefO C th TH] : RefN C (L2.tSl (sN R) t tl th) (DSlN R T TL TH) := ⟨fun {σ H Q ρ K} I h k =>
  r.go I h fun d ρ1 w H1 q1 k1 I1 r1 => s.go I1 q1 fun lo ρ2 H2 q2 k2 I2 => s'.go I2 q2 fun hi ρ3 H3 q3 k3 I3 => ⟨d, _, r1.keep (k2.trans k3), q3, fun z p H4 q4 n4 => by
    obtain ⟨I5, k5, N5⟩ := I3.newL n4
    exact k _ _ _ _ q4 ((k1.trans (k2.trans k3)).trans k5) I5 N5⟩⟩
end
end Dw
end
section
set_option Elab.async false
set_option linter.all false
set_option maxRecDepth 100000
set_option maxHeartbeats 4000000
/-! Tg, part V: Dw: calls of built-ins, of methods, of defs; defs by data. -/
namespace Dw
open PySem PySem.Spec PyProof.Rows L2 Tg LamX
theorem rpL1 {H : Hp} {d : PyData} {xs : List V} (r : RpL H [d] xs) : ∃ x, xs = [x] ∧ Rp H d x := by
  simp only [RpL] at r
  obtain ⟨x, r', rfl, h, rfl⟩ := r
  exact ⟨x, rfl, h⟩
theorem rpL2 {H : Hp} {d e : PyData} {xs : List V} (r : RpL H [d, e] xs) : ∃ x y, xs = [x, y] ∧ Rp H d x ∧ Rp H e y := by
  simp only [RpL] at r
  obtain ⟨x, r', rfl, h, y, r'', rfl, h2, rfl⟩ := r
  exact ⟨x, y, rfl, h, h2⟩
def on1 (ds : List PyData) (k : PyData → Prop) : Prop := match ds with
  | [d] => k d
  | _ => False
def on2 (ds : List PyData) (k : PyData → PyData → Prop) : Prop := match ds with
  | [d, e] => k d e
  | _ => False
theorem on1_go {ds : List PyData} {k : PyData → Prop} (h : on1 ds k) : ∃ d, ds = [d] ∧ k d := by
  match ds, h with
  | [d], h => exact ⟨d, rfl, h⟩
theorem on2_go {ds : List PyData} {k : PyData → PyData → Prop} (h : on2 ds k) : ∃ d e, ds = [d, e] ∧ k d e := by
  match ds, h with
  | [d, e], h => exact ⟨d, e, rfl, h⟩
def RLen : DL := fun ds K => on1 ds fun d => match d with
  | .str z => z.length ≤ 16777216 ∧ K (.int z.length)
  | .list xs => K (.int xs.length)
  | .tuple xs => K (.int xs.length)
  | _ => False
def RIntOf : DL := fun ds K => on1 ds fun d => match d with
  | .int i => K (.int i)
  | .bool b => K (.int (if b then 1 else 0))
  | _ => False
def RIntS : DL := fun ds K => on1 ds fun d => isS d fun a => ∃ n, PySem.intText? a = some n ∧ a.length ≤ 640 ∧ K (.int n)
def RStrI : DL := fun ds K => on1 ds fun d => isI d fun i => i.natAbs.log2 < 1920 ∧ K (.str (toString i))
def RAbs : DL := fun ds K => on1 ds fun d => isI d fun i => K (.int (if i < 0 then -i else i))
def RMin2 : DL := fun ds K => on2 ds fun d e => isI d fun i => isI e fun j => K (.int (if j < i then j else i))
def RMax2 : DL := fun ds K => on2 ds fun d e => isI d fun i => isI e fun j => K (.int (if j > i then j else i))
def RAll : DL := fun ds K => on1 ds fun d => isL d fun xs => ∃ bs : List Bool, xs = bs.map .bool ∧ K (.bool (bs.all id))
def RAny : DL := fun ds K => on1 ds fun d => isL d fun xs => ∃ bs : List Bool, xs = bs.map .bool ∧ K (.bool (bs.any id))
def NList : LL := fun ds K => on1 ds fun d => match d with
  | .list xs => K xs
  | .tuple xs => K xs
  | _ => False
def RTuple : DL := fun ds K => on1 ds fun d => match d with
  | .list xs => K (.tuple xs)
  | .tuple xs => K (.tuple xs)
  | _ => False
def RReprD (n : Nat) : DL := fun ds K => on1 ds fun d => d.showable = true ∧ d.shown.length ≤ 16777216 ∧ n + d.depth + 2 < cLine ∧ K (.str d.shown)
theorem rpL_bools {H : Hp} : ∀ {bs : List Bool} {vs : List V}, RpL H (bs.map PyData.bool) vs → vs = bs.map V.bl
  | [], vs, r => by simpa only [List.map_nil, RpL] using r
  | b :: bs, vs, r => by
    simp only [List.map_cons, RpL, Rp] at r
    obtain ⟨x, r', rfl, rfl, r2⟩ := r
    rw [rpL_bools r2]
    rfl
theorem rpL_strs {H : Hp} : ∀ {bs : List Str} {vs : List V}, RpL H (bs.map PyData.str) vs → vs = bs.map V.str
  | [], vs, r => by simpa only [List.map_nil, RpL] using r
  | b :: bs, vs, r => by
    simp only [List.map_cons, RpL, Rp] at r
    obtain ⟨x, r', rfl, rfl, r2⟩ := r
    rw [rpL_strs r2]
    rfl
theorem rpL_strs_of {H : Hp} : ∀ {bs : List Str}, RpL H (bs.map PyData.str) (bs.map V.str)
  | [] => RpL.nil
  | b :: bs => RpL.cons Rp.str rpL_strs_of
section
variable {X : Cx}
theorem dLen : CallR X (.builtin "len") (cD RLen) := CallR.of call_len fun x H Q q => by
  obtain ⟨ds, K, r, q, k⟩ := q
  obtain ⟨d, rfl, q1⟩ := on1_go q
  obtain ⟨x, rfl, r1⟩ := rpL1 r
  cases d with
  | str z =>
    cases rp_str r1
    exact ⟨_, _, rfl, ⟨by rw [sizeLine_eq]; exact q1.1, rfl⟩, k _ _ _ q1.2 (fun _ _ e => e) Rp.int⟩
  | list xs =>
    obtain ⟨a, o, vs, rfl, ha, rl⟩ := rp_list r1
    exact ⟨_, _, rfl, .inl ⟨vs, .inl (.inr ⟨o, ha⟩), rfl⟩, k _ _ _ q1 (fun _ _ e => e) (by rw [rpL_len rl]; exact Rp.int)⟩
  | tuple xs =>
    obtain ⟨a, vs, rfl, ha, rl⟩ := rp_tup r1
    exact ⟨_, _, rfl, .inr ⟨vs, SqT.of ha, rfl⟩, k _ _ _ q1 (fun _ _ e => e) (by rw [rpL_len rl]; exact Rp.int)⟩
  | _ => exact q1.elim
theorem dIntOf : CallR X (.type "int") (cD RIntOf) := CallR.of call_int1 fun x H Q q => by
  obtain ⟨ds, K, r, q, k⟩ := q
  obtain ⟨d, rfl, q1⟩ := on1_go q
  obtain ⟨x, rfl, r1⟩ := rpL1 r
  cases d with
  | int z =>
    cases rp_int r1
    exact .inl ⟨z, rfl, k _ _ _ q1 (fun _ _ e => e) Rp.int⟩
  | bool z =>
    cases rp_bl r1
    exact .inr ⟨z, rfl, k _ _ _ q1 (fun _ _ e => e) Rp.int⟩
  | _ => exact q1.elim
theorem dIntS : CallR X (.type "int") (cD RIntS) := CallR.of call_int_str fun x H Q q => by
  obtain ⟨ds, K, r, q, k⟩ := q
  obtain ⟨d, rfl, q1⟩ := on1_go q
  obtain ⟨x, rfl, r1⟩ := rpL1 r
  obtain ⟨a, rfl, n, h1, h2, q2⟩ := isS_go q1
  cases rp_str r1
  exact ⟨a, n, rfl, h1, h2, k _ _ _ q2 (fun _ _ e => e) Rp.int⟩
theorem dStrI : CallR X (.type "str") (cD RStrI) := CallR.of call_str_int fun x H Q q => by
  obtain ⟨ds, K, r, q, k⟩ := q
  obtain ⟨d, rfl, q1⟩ := on1_go q
  obtain ⟨x, rfl, r1⟩ := rpL1 r
  obtain ⟨a, rfl, h1, q2⟩ := isI_go q1
  cases rp_int r1
  exact ⟨a, rfl, h1, k _ _ _ q2 (fun _ _ e => e) Rp.str⟩
theorem dAbs : CallR X (.builtin "abs") (cD RAbs) := CallR.of call_abs fun x H Q q => by
  obtain ⟨ds, K, r, q, k⟩ := q
  obtain ⟨d, rfl, q1⟩ := on1_go q
  obtain ⟨x, rfl, r1⟩ := rpL1 r
  obtain ⟨a, rfl, q2⟩ := isI_go q1
  cases rp_int r1
  exact ⟨a, rfl, k _ _ _ q2 (fun _ _ e => e) Rp.int⟩
theorem dMin2 (hc : X.calm = true) : CallR X (.builtin "min") (cD RMin2) := CallR.of (call_min2 hc) fun x H Q q => by
  obtain ⟨ds, K, r, q, k⟩ := q
  obtain ⟨d, e, rfl, q1⟩ := on2_go q
  obtain ⟨x, y, rfl, r1, r2⟩ := rpL2 r
  obtain ⟨a, rfl, q2⟩ := isI_go q1
  obtain ⟨b, rfl, q3⟩ := isI_go q2
  cases rp_int r1
  cases rp_int r2
  exact ⟨a, b, rfl, k _ _ _ q3 (fun _ _ e => e) Rp.int⟩
theorem dMax2 (hc : X.calm = true) : CallR X (.builtin "max") (cD RMax2) := CallR.of (call_max2 hc) fun x H Q q => by
  obtain ⟨ds, K, r, q, k⟩ := q
  obtain ⟨d, e, rfl, q1⟩ := on2_go q
  obtain ⟨x, y, rfl, r1, r2⟩ := rpL2 r
  obtain ⟨a, rfl, q2⟩ := isI_go q1
  obtain ⟨b, rfl, q3⟩ := isI_go q2
  cases rp_int r1
  cases rp_int r2
  exact ⟨a, b, rfl, k _ _ _ q3 (fun _ _ e => e) Rp.int⟩
theorem dAll (hc : X.calm = true) : CallR X (.builtin "all") (cD RAll) := CallR.of (cr_all hc) fun x H Q q => by
  obtain ⟨ds, K, r, q, k⟩ := q
  obtain ⟨d, rfl, q1⟩ := on1_go q
  obtain ⟨x, rfl, r1⟩ := rpL1 r
  obtain ⟨a, rfl, bs, rfl, q2⟩ := isL_go q1
  obtain ⟨p, o, vs, rfl, ha, rl⟩ := rp_list r1
  cases rpL_bools rl
  exact ⟨p, bs, rfl, .inl (.inr ⟨o, ha⟩), k _ _ _ q2 (fun _ _ e => e) Rp.bl⟩
theorem dAny (hc : X.calm = true) : CallR X (.builtin "any") (cD RAny) := CallR.of (cr_any hc) fun x H Q q => by
  obtain ⟨ds, K, r, q, k⟩ := q
  obtain ⟨d, rfl, q1⟩ := on1_go q
  obtain ⟨x, rfl, r1⟩ := rpL1 r
  obtain ⟨a, rfl, bs, rfl, q2⟩ := isL_go q1
  obtain ⟨p, o, vs, rfl, ha, rl⟩ := rp_list r1
  cases rpL_bools rl
  exact ⟨p, bs, rfl, .inl (.inr ⟨o, ha⟩), k _ _ _ q2 (fun _ _ e => e) Rp.bl⟩
theorem dList : CallR X (.type "list") (cN NList) := CallR.of call_list_of fun x H Q q => by
  obtain ⟨ds, K, r, q, k⟩ := q
  obtain ⟨d, rfl, q1⟩ := on1_go q
  obtain ⟨x, rfl, r1⟩ := rpL1 r
  cases d with
  | list xs =>
    obtain ⟨p, o, vs, rfl, ha, rl⟩ := rp_list r1
    exact ⟨p, vs, rfl, .inl (.inl (.inr ⟨o, ha⟩)), fun l nl => k _ _ _ q1 ⟨vs, nl, rfl, rl⟩⟩
  | tuple xs =>
    obtain ⟨p, vs, rfl, ha, rl⟩ := rp_tup r1
    exact ⟨p, vs, rfl, .inr (SqT.of ha), fun l nl => k _ _ _ q1 ⟨vs, nl, rfl, rl⟩⟩
  | _ => exact q1.elim
theorem dTuple : CallR X (.type "tuple") (cD RTuple) := CallR.of call_tuple_of fun x H Q q => by
  obtain ⟨ds, K, r, q, k⟩ := q
  obtain ⟨d, rfl, q1⟩ := on1_go q
  obtain ⟨x, rfl, r1⟩ := rpL1 r
  cases d with
  | list xs =>
    obtain ⟨p, o, vs, rfl, ha, rl⟩ := rp_list r1
    exact ⟨p, vs, rfl, .inl ⟨.inl (.inr ⟨o, ha⟩), fun l nl => k _ _ _ q1 (same_new nl) (Rp.tup upd_same (rl.same (same_new nl)))⟩⟩
  | tuple xs =>
    have r1' := r1
    obtain ⟨p, vs, rfl, ha, rl⟩ := rp_tup r1
    exact ⟨p, vs, rfl, .inr ⟨SqT.of ha, k _ _ _ q1 (fun _ _ e => e) r1'⟩⟩
  | _ => exact q1.elim
theorem dRepr {n : Nat} (hg : X.A.guards = some []) (hn : X.A.units ≤ n) : CallR X (.builtin "repr") (cD (RReprD n)) := CallR.of (call_reprN hg hn) fun x H Q q => by
  obtain ⟨ds, K, r, q, k⟩ := q
  obtain ⟨d, rfl, h1, h2, h3, q1⟩ := on1_go q
  obtain ⟨x, rfl, r1⟩ := rpL1 r
  exact ⟨d, x, rfl, r1, h1, by rw [sizeLine_eq]; exact h2, h3, k _ _ _ q1 (fun _ _ e => e) Rp.str⟩
/-! ### methods of texts -/
def MStarts : PyData → DL := fun x ds K => isS x fun a => on2 ds fun d e => isS d fun b => isI e fun i => K (.bool (Txt.startswith3 a b i))
def MFind : PyData → DL := fun x ds K => isS x fun a => on2 ds fun d e => isS d fun b => isI e fun i => K (.int (Txt.find3 a b i))
def MJoin : PyData → DL := fun x ds K => isS x fun a => on1 ds fun d => isL d fun xs => ∃ ys : List Str, xs = ys.map .str ∧ (ys.map (·.length)).sum + ys.length * a.length ≤ 16777216 ∧ K (.str (Txt.join a ys))
theorem mStarts : MtR X "str.startswith" (mD MStarts) := MtR.of mt_startswith3 fun x xs H Q q => by
  obtain ⟨d, ds, K, r, rl, q, k⟩ := q
  obtain ⟨a, rfl, q1⟩ := isS_go q
  obtain ⟨e, f, rfl, q2⟩ := on2_go q1
  obtain ⟨b, rfl, q3⟩ := isS_go q2
  obtain ⟨i, rfl, q4⟩ := isI_go q3
  obtain ⟨y, z, rfl, r1, r2⟩ := rpL2 rl
  cases rp_str r
  cases rp_str r1
  cases rp_int r2
  exact ⟨a, b, i, rfl, rfl, k _ _ _ q4 (fun _ _ e => e) Rp.bl⟩
theorem mFind : MtR X "str.find" (mD MFind) := MtR.of mt_find3 fun x xs H Q q => by
  obtain ⟨d, ds, K, r, rl, q, k⟩ := q
  obtain ⟨a, rfl, q1⟩ := isS_go q
  obtain ⟨e, f, rfl, q2⟩ := on2_go q1
  obtain ⟨b, rfl, q3⟩ := isS_go q2
  obtain ⟨i, rfl, q4⟩ := isI_go q3
  obtain ⟨y, z, rfl, r1, r2⟩ := rpL2 rl
  cases rp_str r
  cases rp_str r1
  cases rp_int r2
  exact ⟨a, b, i, rfl, rfl, k _ _ _ q4 (fun _ _ e => e) Rp.int⟩
theorem mJoin : MtR X "str.join" (mD MJoin) := MtR.of mt_join fun x xs H Q q => by
  obtain ⟨d, ds, K, r, rl, q, k⟩ := q
  obtain ⟨a, rfl, q1⟩ := isS_go q
  obtain ⟨e, rfl, q2⟩ := on1_go q1
  obtain ⟨b, rfl, ys, rfl, h1, q3⟩ := isL_go q2
  obtain ⟨y, rfl, r1⟩ := rpL1 rl
  obtain ⟨p, o, vs, rfl, ha, rl⟩ := rp_list r1
  cases rpL_strs rl
  cases rp_str r
  exact ⟨a, p, ys, rfl, rfl, .inl (.inl (.inr ⟨o, ha⟩)), h1, k _ _ _ q3 (fun _ _ e => e) Rp.str⟩
end
/-! ### isinstance -/
def tyB (n : String) : PyData → Bool
  | .bool _ => n == "bool" || n == "int"
  | .int _ => n == "int"
  | .str _ => n == "str"
  | .list _ => n == "list"
  | .tuple _ => n == "tuple"
  | .dict _ => n == "dict"
  | .none => false
class TyN (n : String) : Prop where
  kit : ∀ (K : PySem.W.Frag) (d : PyData), PySem.W.kitOne K (tyD d) (.type n) = some (tyB n d)
instance : TyN "bool" := ⟨fun K d => by cases d <;> rfl⟩
instance : TyN "int" := ⟨fun K d => by cases d <;> rfl⟩
instance : TyN "str" := ⟨fun K d => by cases d <;> rfl⟩
instance : TyN "list" := ⟨fun K d => by cases d <;> rfl⟩
instance : TyN "tuple" := ⟨fun K d => by cases d <;> rfl⟩
instance : TyN "dict" := ⟨fun K d => by cases d <;> rfl⟩
def DIs (n : String) (T : TD) : TD := fun ρ K => T ρ fun d ρ1 => K (.bool (tyB n d)) ρ1
def DIs3 (a b c : String) (T : TD) : TD := fun ρ K => T ρ fun d ρ1 => K (.bool (tyB a d || tyB b d || tyB c d)) ρ1
section
variable {C : DC} {Kf : PySem.W.Frag}
instance iIs {n : String} [tn : TyN n] {t : TE} {T : TD} [r : Ref C t T] : Ref C (tCB (rIsD Kf) (tCons t (tCons (tC (.ty n)) tNil))) (DIs n T) := ⟨fun {σ H Q ρ K} I h k =>
  r.go I h fun d ρ1 w H1 q1 k1 I1 r1 => ⟨w, .ty n, d, .type n, tyB n d, rfl, .ty n, r1, tn.kit Kf d, k _ _ _ _ q1 k1 I1 Rp.bl⟩⟩
instance iIs3 {a b c : String} [ta : TyN a] [tb : TyN b] [tc : TyN c] {t : TE} {T : TD} [r : Ref C t T] : Ref C (tCB (rIsDT Kf) (tCons t (tCons (tTup (tCons (tC (.ty a)) (tCons (tC (.ty b)) (tCons (tC (.ty c)) tNil)))) tNil))) (DIs3 a b c T) := ⟨fun {σ H Q ρ K} I h k =>
  r.go I h fun d ρ1 w H1 q1 k1 I1 r1 => ⟨len_ok (by show 3 ≤ 1000; decide), fun p np => ⟨w, p, _, d, [.type a, .type b, .type c], (tyB a d || tyB b d || tyB c d), rfl, upd_same, .cons (.ty a) (.cons (.ty b) (.cons (.ty c) .nil)), r1.same (same_new np), by
    simp only [PySem.W.kitAny, ta.kit, tb.kit, tc.kit]
    cases tyB a d <;> cases tyB b d <;> cases tyB c d <;> rfl, k _ _ _ _ q1 (k1.trans (Kp.new np)) (I1.same (same_new np)) Rp.bl⟩⟩⟩
/-! ### own lists -/
def DApp (i : Nat) (T : TD) : TDS := fun DD ρ => (∃ xs, ρ[i]? = some (some (.l xs))) ∧ T ρ fun d ρ1 => match ρ1[i]? with
  | some (some (.l xs)) => xs.length < 1000000 ∧ DD.nx (ρ1.set i (some (.l (xs ++ [d]))))
  | _ => False
instance iApp {i : Nat} {t : TE} {T : TD} [r : Ref C t T] : RefS C (tDrop (tBM Kf "list" rAppend (tVar i) (tCons t tNil))) (DApp i T) := ⟨fun {D σ H ρ DD} I h n rt bk ct => by
  obtain ⟨⟨xs0, e0⟩, h⟩ := h
  obtain ⟨w0, hw0, a0, vs0, rfl, ha0, _⟩ := I.at_ i _ e0
  refine ⟨_, hw0, .inl ⟨rfl, vs0, SqL.of ha0⟩, r.go I h fun d ρ1 w H1 q1 k1 I1 r1 => ?_⟩
  split at q1
  · rename_i xs e
    obtain ⟨w1, hw1, a, vs, rfl, ha, rl, n0, ns, nn⟩ := I1.at_ i _ e
    rw [hw0] at hw1
    cases hw1
    have kp := kp_but ha True.intro (But.upd (p := a0) (H := H1) (o := .lst (vs ++ [w])))
    refine ⟨a0, vs, w, rfl, rfl, ha, ?_, n _ _ _ q1.2 (k1.trans kp) ?_⟩
    · have := q1.1
      rw [← rpL_len rl, sizeLine_eq]
      omega
    · have I2 := (I1.forget i).but ha True.intro (But.upd (o := .lst (vs ++ [w]))) n0 ns nn (DI.own I1 e hw0 rfl)
      have I3 := I2.tell (i := i) (dv := .l (xs ++ [d])) hw0 ⟨a0, _, rfl, upd_same, RpL.keep kp _ _ (rpL_snoc r1 rl), n0, ns, nn⟩ fun _ j y ne ej my => DI.own I1 e hw0 rfl j y ej my
      rw [set_set] at I3
      exact I3
  · exact q1.elim⟩
end
/-! ### defs by data -/
abbrev DF := List PyData → (PyData → Prop) → Prop
abbrev DFX := List PyData → (PyData → Prop) → (Addr → PyData → Prop) → Prop
def spD (F : DF) : Sp := fun vs H Q _ => ∃ ds K, RpL H ds vs ∧ F ds K ∧ ∀ d w H', K d → Same H H' → Rp H' d w → Q w H'
def spX (F : DFX) : Sp := fun vs H Q E => ∃ ds K Ex, RpL H ds vs ∧ F ds K Ex ∧ (∀ d w H', K d → Same H H' → Rp H' d w → Q w H') ∧
  ∀ Ca d dx w H', Ex Ca d → Same H H' → H' dx = some (.xd [("value", w)]) → Rp H' d w → E (.ref Ca) (some dx) H'
class ExOk (C : DC) (E : XK) (Ex : outParam (Addr → PyData → Prop)) : Prop where
  go : ∀ {ρ : DSt} {σ : L2.St} {H : Hp} {Ca : Addr} {d : PyData} {dx : Addr} {w : V}, DI C ρ σ H → Ex Ca d → H dx = some (.xd [("value", w)]) → Rp H d w → E (.ref Ca) (some dx) H
def DCall (F : DF) (TA : TDA) : TD := fun ρ K => TA ρ fun ds ρ1 => F ds fun d => K d ρ1
def DCallX (F : DFX) (Ex : Addr → PyData → Prop) (TA : TDA) : TD := fun ρ K => TA ρ fun ds ρ1 => F ds (fun d => K d ρ1) Ex
/-- raise C(e) -/
def tRaise (W : WX) (Ca : Addr) (te : TE) : TS := fun _ σ H => te σ H fun v H1 => ∀ d, H1 d = none → W (.ref Ca) (some d) σ (upd H1 d (.xd [("value", v)]))
def DRaise (Ex : Addr → PyData → Prop) (Ca : Addr) (T : TD) : TDS := fun _ ρ => T ρ fun d _ => Ex Ca d
section
variable {C : DC}
instance iCall {F : DF} {E : XK} {ta : TA} {TA : TDA} [r : RefA C ta TA] : Ref C (tCall (spD F) [] E ta) (DCall F TA) := ⟨fun {σ H Q ρ K} I h k =>
  r.go I h fun ds ρ1 ws H1 q1 k1 I1 r1 => ⟨ds, _, by rw [List.append_nil]; exact r1, q1, fun d w H2 q2 s2 r2 => k _ _ _ _ q2 (k1.trans (Kp.same s2)) (I1.same s2) r2⟩⟩
instance iE0 : ExOk C E0 (fun _ _ => False) := ⟨fun _ h _ _ => h.elim⟩
instance iCallX {F : DFX} {E : XK} {Ex : Addr → PyData → Prop} {ta : TA} {TA : TDA} [x : ExOk C E Ex] [r : RefA C ta TA] : Ref C (tCall (spX F) [] E ta) (DCallX F Ex TA) := ⟨fun {σ H Q ρ K} I h k =>
  r.go I h fun ds ρ1 ws H1 q1 k1 I1 r1 => ⟨ds, _, _, by rw [List.append_nil]; exact r1, q1, fun d w H2 q2 s2 r2 => k _ _ _ _ q2 (k1.trans (Kp.same s2)) (I1.same s2) r2, fun Ca d dx w H2 q2 s2 h2 r2 => x.go (I1.same s2) q2 h2 r2⟩⟩
instance iRaise {E : XK} {Ex : Addr → PyData → Prop} {Ca : Addr} {t : TE} {T : TD} [x : ExOk C E Ex] [r : Ref C t T] : RefS C (tRaise (fun cls d _ H => E cls d H) Ca t) (DRaise Ex Ca T) := ⟨fun {D σ H ρ DD} I h n rt bk ct =>
  r.go I h fun d ρ1 w H1 q1 k1 I1 r1 dx ndx => x.go (I1.same (same_new ndx)) q1 upd_same (r1.same (same_new ndx))⟩
end
/-! ### a def's body -/
def pureC (H : Hp) : DC := ⟨H, fun _ => False, fun _ => False, fun _ => True, fun _ _ _ _ => trivial, fun _ _ _ _ _ _ _ _ _ => trivial⟩
def startD (n : Nat) (ds : List PyData) : DSt := ds.map (fun d => some (.d d)) ++ List.replicate (n - ds.length) none
theorem start_get {n : Nat} {ds : List PyData} {i : Nat} {dv : DV} (h : (startD n ds)[i]? = some (some dv)) : ∃ d, ds[i]? = some d ∧ dv = .d d := by
  unfold startD at h
  by_cases l : i < ds.length
  · rw [List.getElem?_append_left (by simpa using l), List.getElem?_map] at h
    rw [List.getElem?_eq_getElem l] at h ⊢
    simp only [Option.map_some, Option.some.injEq] at h
    exact ⟨_, rfl, h.symm⟩
  · rw [List.getElem?_append_right (by simpa using l)] at h
    have := List.mem_of_getElem? h
    rw [List.mem_replicate] at this
    cases this.2
theorem DI.start {C : DC} {H : Hp} {N : List Str} {ds : List PyData} {vs : List V} (r : RpL H ds vs) (fr : Fr C.S C.H0 H) (sx : ∀ b, C.S b → ∃ xs, H b = some (.lst xs)) (nx : ∀ b, C.N b → ∃ o, H b = some o) (j : C.J H) : DI C (startD N.length ds) (L2.start N vs) H := by
  have hl := rpL_len r
  refine ⟨by simp [startD, L2.start, hl], fun i dv e => ?_, fun i j x y w hi hj mx => ?_, fr, sx, nx, j⟩
  · obtain ⟨d, h1, rfl⟩ := start_get e
    obtain ⟨x, h2, h3⟩ := rpL_at r h1
    refine ⟨x, ?_, h3⟩
    have l : i < vs.length := by
      by_cases l : i < vs.length
      · exact l
      · rw [List.getElem?_eq_none (by omega)] at h2; cases h2
    unfold L2.start
    rw [List.getElem?_append_left (by simpa using l), List.getElem?_map, h2]
    rfl
  · obtain ⟨d, _, rfl⟩ := start_get hi
    cases mx
theorem DI.pure {H : Hp} {N : List Str} {ds : List PyData} {vs : List V} (r : RpL H ds vs) : DI (pureC H) (startD N.length ds) (L2.start N vs) H :=
  DI.start r (fun b o _ e => .inl e) (fun b hb => hb.elim) (fun b hb => hb.elim) trivial
theorem DI.out {H0 H : Hp} {ρ : DSt} {σ : L2.St} (I : DI (pureC H0) ρ σ H) (nt : ∀ b ps, H0 b ≠ some (.tbl ps)) : Same H0 H := fun b o e => by
  rcases I.fr b o (fun z => z) e with h | ⟨ps, _, rfl, _⟩
  · exact h
  · exact absurd e (nt b ps)
/-- .. the frame of a def that changes nothing: tables stay as they are, too -/
def pureC2 (H : Hp) : DC := ⟨H, fun _ => False, fun _ => False, fun H' => ∀ b ps, H b = some (.tbl ps) → H' b = some (.tbl ps), fun H1 H2 s j b ps e => s _ _ (j b ps e), fun H1 H2 p u hp ld _ but j b ps e => but _ _ (fun z => by
  have h := j b ps e
  rw [z, hp] at h
  cases h
  exact ld) (j b ps e)⟩
theorem DI.pure2 {H : Hp} {N : List Str} {ds : List PyData} {vs : List V} (r : RpL H ds vs) : DI (pureC2 H) (startD N.length ds) (L2.start N vs) H :=
  DI.start r (fun b o _ e => .inl e) (fun b hb => hb.elim) (fun b hb => hb.elim) (fun _ _ e => e)
theorem DI.out2 {H0 H : Hp} {ρ : DSt} {σ : L2.St} (I : DI (pureC2 H0) ρ σ H) : Same H0 H := fun b o e => by
  rcases I.fr b o (fun z => z) e with h | ⟨ps, _, rfl, _⟩
  · exact h
  · exact I.j b ps e
section
variable {P : Program} {w : World} {K : PySem.W.Frag} {mg : Str → Option Value} {base : Heap}
/-- a def that raises nothing -/
theorem okD {x ql : Str} {st : Stmt} {f : Addr} {fd : FuncData} {N ps : List Str} {k : Nat} {F : DF} (Fn : L2.Fun K x ql st f fd) (S : FnScope N ps (defScope st)) (len : ∀ ds Kk, F ds Kk → ds.length = ps.length)
    (hb : ∀ (cdv : Value) (A : Around) (outer : List Env) (s : Shared) (H : Hp) (E : XK) (ds : List PyData) (Kk : PyData → Prop), Room k (A.deeper (envOfC ql (defScope st) s.heap.objs.size f cdv)) → F ds Kk →
      ∃ t T, PSs (cxOf CX0 P w K mg base N ql (defScope st) f cdv A outer s H E).nox (defBody st) t ∧ RefS (pureC2 H) t T ∧ T { nx := fun _ => Kk .none, rt := fun d _ => Kk d } (startD N.length ds)) : FnOk P w K mg base CX0 (k + 1) f fd ps (spD F) := by
  refine Fn.ok S (fun vs H Q E h => ?_) fun cdv A outer s H vs Q E hr h => ?_
  · obtain ⟨ds, Kk, r, h, _⟩ := h
    rw [← rpL_len r]
    exact len ds Kk h
  · obtain ⟨ds, Kk, r, h, k⟩ := h
    obtain ⟨t, T, hp, rs, q⟩ := hb cdv A outer s H E ds Kk hr h
    refine ⟨t, hp, rs.go (DI.pure2 r) q (fun ρ' σ' H' q' _ I => k _ _ _ q' I.out2 Rp.non) (fun d ρ' w' σ' H' q' _ I r' => k _ _ _ q' I.out2 r') (fun _ _ _ z => z.elim) fun _ _ _ z => z.elim⟩
/-- a def that may raise -/
theorem okX {x ql : Str} {st : Stmt} {f : Addr} {fd : FuncData} {N ps : List Str} {k : Nat} {F : DFX} (Fn : L2.Fun K x ql st f fd) (S : FnScope N ps (defScope st)) (len : ∀ ds Kk Ex, F ds Kk Ex → ds.length = ps.length)
    (hb : ∀ (cdv : Value) (A : Around) (outer : List Env) (s : Shared) (H : Hp) (E : XK) (ds : List PyData) (Kk : PyData → Prop) (Ex : Addr → PyData → Prop), ExOk (pureC2 H) E Ex → Room k (A.deeper (envOfC ql (defScope st) s.heap.objs.size f cdv)) → F ds Kk Ex →
      ∃ t T, PSs (cxOf (L2.CX P w) P w K mg base N ql (defScope st) f cdv A outer s H E) (defBody st) t ∧ RefS (pureC2 H) t T ∧ T { nx := fun _ => Kk .none, rt := fun d _ => Kk d } (startD N.length ds)) : FnOk P w K mg base (L2.CX P w) (k + 1) f fd ps (spX F) := by
  refine Fn.okX S (fun vs H Q E h => ?_) fun cdv A outer s H vs Q E hr h => ?_
  · obtain ⟨ds, Kk, Ex, r, h, _⟩ := h
    rw [← rpL_len r]
    exact len ds Kk Ex h
  · obtain ⟨ds, Kk, Ex, r, h, k, kx⟩ := h
    obtain ⟨t, T, hp, rs, q⟩ := hb cdv A outer s H E ds Kk Ex ⟨fun I hx hd r => kx _ _ _ _ _ hx I.out2 hd r⟩ hr h
    refine ⟨t, hp, rs.go (DI.pure2 r) q (fun ρ' σ' H' q' _ I => k _ _ _ q' I.out2 Rp.non) (fun d ρ' w' σ' H' q' _ I r' => k _ _ _ q' I.out2 r') (fun _ _ _ z => z.elim) fun _ _ _ z => z.elim⟩
end
end Dw
end
section
set_option Elab.async false
set_option linter.all false
set_option maxRecDepth 100000
set_option maxHeartbeats 4000000
/-! Tg, part W: Dw: operations that take several kinds, a slot locked behind a statement, raise, the pot. -/
namespace Dw
open PySem PySem.Spec PyProof.Rows L2 Tg LamX
def RAdd : D2 := fun d e K => match d, e with
  | .int i, .int j => K (.int (i + j))
  | .str i, .str j => i.length + j.length ≤ 16777216 ∧ K (.str (i ++ j))
  | _, _ => False
def RLe : D2 := fun d e K => match d, e with
  | .int i, .int j => K (.bool (decide (i ≤ j)))
  | .str i, .str j => K (.bool (!decide (j.cps.toList < i.cps.toList)))
  | _, _ => False
def RInX (neg : Bool) : D2 := fun d e K => match e with
  | .str z => isS d fun x => ∃ c, x = ⟨#[c]⟩ ∧ K (.bool (if neg then !decide (c ∈ z.cps.toList) else decide (c ∈ z.cps.toList)))
  | .list xs => (flD d = true ∧ xs.all flD = true) ∧ K (.bool (if neg then !inF d xs else inF d xs))
  | .tuple xs => (flD d = true ∧ xs.all flD = true) ∧ K (.bool (if neg then !inF d xs else inF d xs))
  | _ => False
/-- xs + ys -/
def NCat : LL2 := fun d e K => isL d fun xs => isL e fun ys => xs.length + ys.length ≤ 16777216 ∧ K (xs ++ ys)
def RMulX : D2 := fun d e K => match d, e with
  | .int i, .int j => CMul i j ∧ K (.int (i * j))
  | .str x, .int j => (j = 0 ∨ j = 1) ∧ x.length ≤ 1000 ∧ K (.str (if j = 1 then x else ""))
  | _, _ => False
/-- xs[lo:hi] -/
def cutD (xs : List PyData) (lo hi : Option Int) : List PyData := (xs.drop (HT.sIx xs.length 0 lo)).take (HT.sIx xs.length xs.length hi - HT.sIx xs.length 0 lo)
theorem rpL_take {H : Hp} : ∀ {ds : List PyData} {xs : List V} (i : Nat), RpL H ds xs → RpL H (ds.take i) (xs.take i)
  | _, _, 0, _ => by simpa using RpL.nil
  | [], xs, i + 1, r => by simp only [RpL] at r; subst r; exact RpL.nil
  | d :: ds, xs, i + 1, r => by
    simp only [RpL] at r
    obtain ⟨x, r', rfl, h1, h2⟩ := r
    exact RpL.cons h1 (rpL_take i h2)
theorem rpL_drop {H : Hp} : ∀ {ds : List PyData} {xs : List V} (i : Nat), RpL H ds xs → RpL H (ds.drop i) (xs.drop i)
  | _, _, 0, r => by simpa using r
  | [], xs, i + 1, r => by simp only [RpL] at r; subst r; exact RpL.nil
  | d :: ds, xs, i + 1, r => by
    simp only [RpL] at r
    obtain ⟨x, r', rfl, h1, h2⟩ := r
    exact rpL_drop i h2
theorem rpL_app {H : Hp} : ∀ {ds es : List PyData} {xs ys : List V}, RpL H ds xs → RpL H es ys → RpL H (ds ++ es) (xs ++ ys)
  | [], es, xs, ys, r, s => by simp only [RpL] at r; subst r; exact s
  | d :: ds, es, xs, ys, r, s => by
    simp only [RpL] at r
    obtain ⟨x, r', rfl, h1, h2⟩ := r
    exact RpL.cons h1 (rpL_app h2 s)
def NSlL : PyData → Option Int → Option Int → (List PyData → Prop) → Prop := fun d lo hi K => isL d fun xs => K (cutD xs lo hi)
section
variable {X : Cx}
theorem dAddX : OpR X (binaryOp .Add) (rD RAdd) := OpR.of (OpR.or dAdd dAddS) fun x y H Q q => by
  obtain ⟨d, e, K, r1, r2, q, k⟩ := q
  unfold RAdd at q
  split at q
  · exact .inl ⟨_, _, K, r1, r2, q, k⟩
  · exact .inr ⟨_, _, K, r1, r2, q, k⟩
  · exact q.elim
theorem dLeX : OpR X (compareOp .LtE) (rD RLe) := OpR.of (OpR.or dLe dLeS) fun x y H Q q => by
  obtain ⟨d, e, K, r1, r2, q, k⟩ := q
  unfold RLe at q
  split at q
  · exact .inl ⟨_, _, K, r1, r2, q, k⟩
  · exact .inr ⟨_, _, K, r1, r2, q, k⟩
  · exact q.elim
theorem dInX : OpR X (compareOp .In) (rD (RInX false)) := OpR.of (OpR.or dInS dIn) fun x y H Q q => by
  obtain ⟨d, e, K, r1, r2, q, k⟩ := q
  unfold RInX at q
  split at q
  · obtain ⟨z, rfl, c, rfl, q1⟩ := isS_go q
    exact .inl ⟨_, _, K, r1, r2, ⟨c, rfl, q1⟩, k⟩
  · exact .inr ⟨_, _, K, r1, r2, ⟨q.1.1, q.1.2, q.2⟩, k⟩
  · exact .inr ⟨_, _, K, r1, r2, ⟨q.1.1, q.1.2, q.2⟩, k⟩
  · exact q.elim
theorem dNotInS : OpR X (compareOp .NotIn) (rD fun d e K => isS d fun x => isS e fun z => ∃ c, x = ⟨#[c]⟩ ∧ K (.bool (!decide (c ∈ z.cps.toList)))) := OpR.of op_notInS fun x y H Q q => by
  obtain ⟨d, e, K, r1, r2, q, k⟩ := q
  obtain ⟨i, rfl, q1⟩ := isS_go q
  obtain ⟨j, rfl, c, rfl, q2⟩ := isS_go q1
  exact ⟨c, j, rp_str r1, rp_str r2, k _ _ _ q2 (fun _ _ e => e) Rp.bl⟩
theorem dNotInX : OpR X (compareOp .NotIn) (rD (RInX true)) := OpR.of (OpR.or dNotInS dNotIn) fun x y H Q q => by
  obtain ⟨d, e, K, r1, r2, q, k⟩ := q
  unfold RInX at q
  split at q
  · obtain ⟨z, rfl, c, rfl, q1⟩ := isS_go q
    exact .inl ⟨_, _, K, r1, r2, ⟨c, rfl, q1⟩, k⟩
  · exact .inr ⟨_, _, K, r1, r2, ⟨q.1.1, q.1.2, q.2⟩, k⟩
  · exact .inr ⟨_, _, K, r1, r2, ⟨q.1.1, q.1.2, q.2⟩, k⟩
  · exact q.elim
theorem dSlL : SlR X (sN NSlL) := SlR.of sl_list fun x lo hi H Q q => by
  obtain ⟨d, K, r1, q, k⟩ := q
  obtain ⟨xs, rfl, q1⟩ := isL_go q
  obtain ⟨a, o, vs, rfl, ha, rl⟩ := rp_list r1
  refine ⟨a, vs, rfl, .inl (.inr ⟨o, ha⟩), fun p np => k _ _ _ q1 ⟨_, np, rfl, ?_⟩⟩
  unfold cutD cutV
  rw [rpL_len rl]
  exact rpL_take _ (rpL_drop _ rl)
theorem rp_listF {H : Hp} {a : Addr} {o : Obj} {vs : List V} (h : H a = some (.frz o (.lst vs))) : Rd H a (.lst vs) := .inr ⟨o, h⟩
/-- raise C(e) -/
theorem ps_raiseD {W : WX} {fI D C : Addr} {fd : FuncData} {x : Str} {e : Expr} {te : TE} {p pos pos' : Pos} (hc : X.calm = true) (tk : Takes X W) (EC : ErrC X.K fI D C) (T : IniT X.prog X.K X.mg fI D fd) (hr : Room 2 X.A) (hg : Gl X x) (hm : X.mg x = some (.ref C))
    (hb : Binds X.K fd ["self", "value"] []) (he : PE X e te) (hdb : (x == ("__debug__" : Str)) = false := by decide) (hs : starEach [e] X.env = (false, eval e X.env) :: starEach [] X.env := by rfl) :
    PS X (.Raise (some (.Call (.Name x p) [e] [] pos)) none pos') (tRaise W C te) := ps_raiseE hc tk EC T hr hg hm hb he hdb hs
/-- what a slot holds is locked behind a statement -/
def tFzS (i : Nat) (t : TS) : TS := fun D σ H => t { D with nx := fun σ' H' => ∃ p u, σ'[i]? = some (some (.ref p)) ∧ H' p = some u ∧ Mut (some u) ∧ ∀ o, D.nx σ' (upd H' p (.frz o u)) } σ H
theorem ps_fzS {i : Nat} {st : Stmt} {t : TS} (h : PS X st t) : PS X st (tFzS i t) := by
  refine ⟨fun pins s σ H D I q => ?_⟩
  refine wpAny_mono (h.run pins s σ H _ I q) (fun f s1 hs => ?_) fun _ _ z => z
  cases f with
  | next =>
    obtain ⟨σ1, H1, I1, p, u, e, hp, mu, q1⟩ := hs
    obtain ⟨o, I2⟩ := I1.lock hp mu
    exact ⟨σ1, _, I2, q1 o⟩
  | ret v => exact hs
  | brk => exact hs
  | cont => exact hs
end
def DFzS (i : Nat) (T : TDS) : TDS := fun DD ρ => T { DD with nx := fun ρ' => match ρ'[i]? with
  | some (some (.l xs)) => DD.nx (ρ'.set i (some (.d (.list xs))))
  | some (some (.m kvs)) => DD.nx (ρ'.set i (some (.d (.dict kvs))))
  | _ => False } ρ
section
variable {C : DC}
instance iFzS {i : Nat} {t : TS} {T : TDS} [r : RefS C t T] : RefS C (tFzS i t) (DFzS i T) := ⟨fun {D σ H ρ DD} I h n rt bk ct => by
  refine r.go I h (fun ρ1 σ1 H1 q1 k1 I1 => ?_) rt bk ct
  dsimp only at q1
  split at q1
  · rename_i xs e
    obtain ⟨w, h1, a, vs, rfl, h2, h3, h4, h5, h6⟩ := I1.at_ i _ e
    refine ⟨a, _, h1, h2, True.intro, fun o => ?_⟩
    have kp := kp_but h2 True.intro (But.upd (p := a) (H := H1) (o := .frz o (.lst vs)))
    have I2 := (I1.forget i).but h2 True.intro (But.upd (o := .frz o (.lst vs))) h4 h5 h6 (DI.own I1 e h1 rfl)
    have I3 := I2.tell (dv := .d (.list xs)) h1 (Rp.lst upd_same (RpL.keep kp _ _ h3)) fun z => nomatch z
    rw [set_set] at I3
    exact n _ _ _ q1 (k1.trans kp) I3
  · rename_i xs e
    obtain ⟨w, h1, a, vs, rfl, h2, h3, h4, h5, h6⟩ := I1.at_ i _ e
    refine ⟨a, _, h1, h2, True.intro, fun o => ?_⟩
    have kp := kp_but h2 True.intro (But.upd (p := a) (H := H1) (o := .frz o (.dK vs)))
    have I2 := (I1.forget i).but h2 True.intro (But.upd (o := .frz o (.dK vs))) h4 h5 h6 (DI.own I1 e h1 rfl)
    have I3 := I2.tell (dv := .d (.dict xs)) h1 (Rp.dct upd_same (RpD.keep kp _ _ h3)) fun z => nomatch z
    rw [set_set] at I3
    exact n _ _ _ q1 (k1.trans kp) I3
  · exact q1.elim⟩
/-- x op= e -/
def DAug (i : Nat) (R : D2) (T : TD) : TDS := fun DD ρ => match ρ[i]? with
  | some (some (.d x)) => T ρ fun d ρ1 => R x d fun z => DD.nx (ρ1.set i (some (.d z)))
  | _ => False
def ipD (R : D2) : TIp := rD R
instance iAug {i : Nat} {R : D2} {t : TE} {T : TD} [r : Ref C t T] : RefS C (tAug i t (ipD R)) (DAug i R T) := ⟨fun {D σ H ρ DD} I h n rt bk ct => by
  unfold DAug at h
  split at h
  · rename_i x e
    obtain ⟨w, h1, h2⟩ := I.at_ i _ e
    exact ⟨w, h1, r.go I h fun d ρ1 w1 H1 q1 k1 I1 r1 => ⟨x, d, _, Rp.keep k1 _ _ h2, r1, q1, fun z w2 H2 q2 s2 r2 => n _ _ _ q2 (k1.trans (Kp.same s2)) ((I1.same s2).setD r2)⟩⟩
  · exact h.elim⟩
end
section
variable {X : Cx}
theorem PIp.of {op : Operator} {r r' : TIp} (h : PIp X op r) (i : ∀ x y H Q, r' x y H Q → r x y H Q) : PIp X op r' := fun pins s σ H x y v u Q I rx ry q => h pins s σ H x y v u Q I rx ry (i x y H Q q)
theorem ipAdd : PIp X .Add (ipD (RInt fun i j => .int (i + j))) := PIp.of ip_add fun x y H Q q => by
  obtain ⟨d, e, K, r1, r2, q, k⟩ := q
  obtain ⟨i, rfl, q1⟩ := isI_go q
  obtain ⟨j, rfl, q2⟩ := isI_go q1
  exact ⟨i, j, rp_int r1, rp_int r2, k _ _ _ q2 (fun _ _ e => e) Rp.int⟩
end
end Dw
end
section
set_option Elab.async false
set_option linter.all false
set_option maxRecDepth 100000
set_option maxHeartbeats 4000000
/-! Tg, part X: Dw: defs that draw from a pot. -/
namespace Dw
open PySem PySem.Spec PyProof.Rows L2 Tg LamX
abbrev DP := Int → List PyData → (PyData → Int → Prop) → Prop
def spP (F : DP) : Sp := fun vs H Q _ => ∃ p c ds vs' K, vs = .ref p :: vs' ∧ PotAt H p c ∧ RpL H ds vs' ∧ F c ds K ∧ ∀ d c' w H', K d c' → But p H H' → PotAt H' p c' → Rp H' d w → Q w H'
theorem FnOk.sub {P : Program} {w : World} {K : PySem.W.Frag} {mg : Str → Option Value} {base : Heap} {CX : CXT} {k : Nat} {f : Addr} {fd : FuncData} {ps : List Str} {sp sp' : Sp} (F : FnOk P w K mg base CX k f fd ps sp) (h : ∀ vs H Q E, sp' vs H Q E → sp vs H Q E) : FnOk P w K mg base CX k f fd ps sp' :=
  ⟨fun vs H Q E q => F.len vs H Q E (h _ _ _ _ q), fun A o s H ag us vs Q E r e bd rel q => F.run A o s H ag us vs Q E r e bd rel (h _ _ _ _ q)⟩
def DCallP (i : Nat) (F : DP) (TA : TDA) : TD := fun ρ K => (∃ p c, ρ[i]? = some (some (.pot p c))) ∧ TA ρ fun ds ρ1 => match ρ1[i]? with
  | some (some (.pot p c)) => F c ds fun d c' => K d (ρ1.set i (some (.pot p c')))
  | _ => False
section
variable {C : DC}
theorem PotAt.ld {H : Hp} {p : Addr} {c : Int} (h : PotAt H p c) : ∃ xs, H p = some (.lst xs) := let ⟨_, _, _, e, _⟩ := h.ex; ⟨_, e⟩
theorem DI.pot {ρ : DSt} {σ : L2.St} {H H' : Hp} {i : Nat} {p : Addr} {c c' : Int} (I : DI C ρ σ H) (e : ρ[i]? = some (some (.pot p c))) (b : But p H H') (hp : PotAt H' p c') : DI C (ρ.set i (some (.pot p c'))) σ H' := by
  obtain ⟨w, hw, e', hpo, hs, nn⟩ := I.at_ i _ e
  subst e'
  obtain ⟨xs, hx⟩ := hpo.ld
  have ap := DI.own I e hw rfl
  have I1 : DI C (ρ.set i none) σ H' := by
    have I0 := I.forget i
    refine ⟨I0.len, fun j dv ej => ?_, I0.sep, fun d o n ed => ?_, fun d hd => ?_, fun d hd => ?_, C.jb _ _ _ _ hx True.intro nn b I.j⟩
    · obtain ⟨w, h1, h2⟩ := I0.at_ j dv ej
      exact ⟨w, h1, h2.but hx True.intro b fun hm z => ap j dv ej hm (by rw [h1, z])⟩
    · have dp : d ≠ p := fun z => by
        subst z
        rcases hs with hs | hs
        · exact n hs
        · rw [hs] at ed; cases ed
      rcases I.fr d o n ed with h | ⟨ps, ps', h1, h2⟩
      · exact .inl (b _ _ dp h)
      · exact .inr ⟨ps, ps', h1, b _ _ dp h2⟩
    · by_cases dp : d = p
      · subst dp
        exact hp.ld
      · obtain ⟨ys, h⟩ := I.sx d hd
        exact ⟨ys, b _ _ dp h⟩
    · obtain ⟨ys, h⟩ := I.nx d hd
      exact ⟨ys, b _ _ (fun z => nn (z ▸ hd)) h⟩
  have I2 := I1.tell (i := i) (dv := .pot p c') hw ⟨rfl, hp, hs, nn⟩ fun _ j y ne ej my => ap j y ej my
  rw [set_set] at I2
  exact I2
instance iCallP {i : Nat} {F : DP} {E : XK} {ta : TA} {TA : TDA} [r : RefA C ta TA] : Ref C (tCall (spP F) [] E (tCons (tVar i) ta)) (DCallP i F TA) := ⟨fun {σ H Q ρ K} I h k => by
  obtain ⟨⟨p0, c0, e0⟩, h⟩ := h
  obtain ⟨w, hw, rfl, _⟩ := I.at_ i _ e0
  refine ⟨_, hw, r.go I h fun ds ρ1 ws H1 q1 k1 I1 r1 => ?_⟩
  split at q1
  · rename_i p c e
    obtain ⟨w', hw', e', hp, hs, nn⟩ := I1.at_ i _ e
    subst e'
    rw [hw] at hw'
    cases hw'
    obtain ⟨xs, hx⟩ := hp.ld
    exact ⟨p0, c, ds, ws, _, by rw [List.append_nil], hp, r1, q1, fun d c' w H2 q2 b2 hp2 r2 => k _ _ _ _ q2 (k1.trans (kp_but hx True.intro b2)) (I1.pot e b2 hp2) r2⟩
  · exact q1.elim⟩
end
/-! ### a def's body -/
def potC (H : Hp) (p : Addr) : DC := ⟨H, fun b => b = p, fun _ => False, fun H' => ∀ b ps, H b = some (.tbl ps) → H' b = some (.tbl ps), fun H1 H2 s j b ps e => s _ _ (j b ps e), fun H1 H2 q u hq ld _ but j b ps e => but _ _ (fun z => by
  have h := j b ps e
  rw [z, hq] at h
  cases h
  exact ld) (j b ps e)⟩
def startP (n : Nat) (p : Addr) (c : Int) (ds : List PyData) : DSt := some (.pot p c) :: startD (n - 1) ds
theorem DI.startP {C : DC} {H : Hp} {N : List Str} {c : Int} {p : Addr} {ds : List PyData} {vs : List V} (hN : 1 ≤ N.length) (r : RpL H ds vs) (hp : PotAt H p c) (hs : C.S p) (nn : ¬ C.N p) (fr : Fr C.S C.H0 H) (sx : ∀ b, C.S b → ∃ xs, H b = some (.lst xs)) (nx : ∀ b, C.N b → ∃ o, H b = some o) (j : C.J H) : DI C (startP N.length p c ds) (L2.start N (.ref p :: vs)) H := by
  have hl := rpL_len r
  have e0 : L2.start N (.ref p :: vs) = some (.ref p) :: (vs.map some ++ List.replicate (N.length - 1 - vs.length) none) := by
    unfold L2.start
    rw [List.map_cons, List.cons_append, List.length_cons, show N.length - (vs.length + 1) = N.length - 1 - vs.length by omega]
  rw [e0]
  refine ⟨by simp [Dw.startP, startD, hl], fun i dv e => ?_, fun i j x y w hi hj mx my => ?_, fr, sx, nx, j⟩
  · cases i with
    | zero =>
      simp only [Dw.startP, List.getElem?_cons_zero, Option.some.injEq] at e
      subst e
      exact ⟨_, rfl, rfl, hp, .inl hs, nn⟩
    | succ i =>
      simp only [Dw.startP, List.getElem?_cons_succ] at e
      obtain ⟨d, h1, rfl⟩ := start_get e
      obtain ⟨x, h2, h3⟩ := rpL_at r h1
      refine ⟨x, ?_, h3⟩
      have l : i < vs.length := by
        by_cases l : i < vs.length
        · exact l
        · rw [List.getElem?_eq_none (by omega)] at h2; cases h2
      rw [List.getElem?_cons_succ, List.getElem?_append_left (by simpa using l), List.getElem?_map, h2]
      rfl
  · have z : ∀ {i : Nat} {x : DV}, (Dw.startP N.length p c ds)[i]? = some (some x) → x.mt = true → i = 0 := fun {i x} h m => by
      cases i with
      | zero => rfl
      | succ i =>
        simp only [Dw.startP, List.getElem?_cons_succ] at h
        obtain ⟨d, _, rfl⟩ := start_get h
        cases m
    intro _ _
    rw [z hi mx, z hj my]
section
variable {P : Program} {w : World} {K : PySem.W.Frag} {mg : Str → Option Value} {base : Heap}
/-- a def whose first parameter is the pot -/
theorem okP {x ql : Str} {st : Stmt} {f : Addr} {fd : FuncData} {N ps : List Str} {k : Nat} {F : DP} (Fn : L2.Fun K x ql st f fd) (S : FnScope N ps (defScope st)) (hN : 1 ≤ N.length) (len : ∀ c ds Kk, F c ds Kk → ds.length + 1 = ps.length)
    (hb : ∀ (cdv : Value) (A : Around) (outer : List Env) (s : Shared) (H : Hp) (E : XK) (p : Addr) (c : Int) (ds : List PyData) (Kk : PyData → Int → Prop), Room k (A.deeper (envOfC ql (defScope st) s.heap.objs.size f cdv)) → F c ds Kk →
      ∃ t T, PSs (cxOf CX0 P w K mg base N ql (defScope st) f cdv A outer s H E).nox (defBody st) t ∧ RefS (potC H p) t T ∧ T { nx := fun ρ => ∃ c', ρ[0]? = some (some (.pot p c')) ∧ Kk .none c', rt := fun d ρ => ∃ c', ρ[0]? = some (some (.pot p c')) ∧ Kk d c' } (startP N.length p c ds)) :
    FnOk P w K mg base CX0 (k + 1) f fd ps (spP F) := by
  refine Fn.ok S (fun vs H Q E h => ?_) fun cdv A outer s H vs Q E hr h => ?_
  · obtain ⟨p, c, ds, vs', Kk, rfl, _, r, h, _⟩ := h
    rw [List.length_cons, ← rpL_len r]
    exact len c ds Kk h
  · obtain ⟨p, c, ds, vs', Kk, rfl, hp, r, h, k⟩ := h
    obtain ⟨t, T, hps, rs, q⟩ := hb cdv A outer s H E p c ds Kk hr h
    have I0 : DI (potC H p) (startP N.length p c ds) (L2.start N (.ref p :: vs')) H := DI.startP hN r hp rfl (fun z => z) (fun b o _ e => .inl e) (fun b hb => by rw [show b = p from hb]; exact hp.ld) (fun b hb => hb.elim) (fun _ _ e => e)
    have out : ∀ {ρ' : DSt} {σ' : L2.St} {H' : Hp} {c' : Int}, DI (potC H p) ρ' σ' H' → ρ'[0]? = some (some (.pot p c')) → But p H H' ∧ PotAt H' p c' := fun {ρ' σ' H' c'} I e => by
      obtain ⟨w, hw, rfl, hp', _⟩ := I.at_ 0 _ e
      refine ⟨fun b o nb eb => ?_, hp'⟩
      rcases I.fr b o nb eb with h | ⟨ps, _, rfl, _⟩
      · exact h
      · exact I.j b ps eb
    refine ⟨t, hps, rs.go I0 q (fun ρ' σ' H' ⟨c', e, q'⟩ _ I => k _ _ _ _ q' (out I e).1 (out I e).2 Rp.non) (fun d ρ' w' σ' H' ⟨c', e, q'⟩ _ I r' => k _ _ _ _ q' (out I e).1 (out I e).2 r') (fun _ _ _ z => z.elim) fun _ _ _ z => z.elim⟩
end
end Dw
end
section
set_option Elab.async false
set_option linter.all false
set_option maxRecDepth 100000
set_option maxHeartbeats 4000000
/-! Tg, part Y: Dw: comprehensions, by what they give. -/
namespace Dw
open PySem PySem.Spec PyProof.Rows L2 Tg LamX
def DYes : TDT := fun ρ K => K true ρ
instance iYes {C : DC} : RefT C tYes DYes := ⟨fun {σ H Q ρ K} I h k => k true ρ H h (Kp.refl _) I⟩
theorem take_succ {α : Type} {xs : List α} {i : Nat} {x : α} (h : xs[i]? = some x) : xs.take (i + 1) = xs.take i ++ [x] := by
  rw [List.take_add_one, h]
  rfl
/-- [f x for x in items] -/
theorem lc_map {G : TDG} {TE : TD} {vs ts : List Nat} {items : List PyData} {ρ1 : DSt} {K : DV → DSt → Prop} (f : PyData → PyData)
    (hs : ∀ (i : Nat) x, items[i]? = some x → ∀ Q : PyData → DSt → Prop, (∀ ρ4, wipeD ρ4 vs = wipeD ρ1 vs → Q (f x) ρ4) → G x (wipeD ρ1 vs) fun ρ2 => TE ρ2 Q) (hK : K (.l (items.map f)) (wipeD ρ1 vs)) (hl : items.length ≤ 100000) (hts : ts.all (vs.contains ·) = true := by rfl) : LcB items G ts DYes TE vs ρ1 K := by
  refine ⟨hl, hts, fun i acc ρ => acc = (items.take i).map f ∧ ρ = wipeD ρ1 vs, ⟨rfl, rfl⟩, ?_, ?_⟩
  · rintro i x acc ρ hx ⟨rfl, rfl⟩
    exact hs i x hx _ fun ρ4 e => ⟨by rw [take_succ hx, List.map_append]; rfl, e⟩
  · rintro acc ρ ⟨rfl, rfl⟩
    rw [List.take_length]
    exact hK
/-- [f x for x in items if p x] -/
theorem lc_filter {G : TDG} {TT : TDT} {TE : TD} {vs ts : List Nat} {items : List PyData} {ρ1 : DSt} {K : DV → DSt → Prop} (f : PyData → PyData) (p : PyData → Bool)
    (hs : ∀ (i : Nat) x, items[i]? = some x → ∀ (Q : PyData → DSt → Prop) (Qn : DSt → Prop), (p x = true → ∀ ρ4, wipeD ρ4 vs = wipeD ρ1 vs → Q (f x) ρ4) → (p x = false → ∀ ρ4, wipeD ρ4 vs = wipeD ρ1 vs → Qn ρ4) → G x (wipeD ρ1 vs) fun ρ2 => TT ρ2 fun b ρ3 => if b = true then TE ρ3 Q else Qn ρ3) (hK : K (.l ((items.filter p).map f)) (wipeD ρ1 vs)) (hl : items.length ≤ 100000) (hts : ts.all (vs.contains ·) = true := by rfl) : LcB items G ts TT TE vs ρ1 K := by
  refine ⟨hl, hts, fun i acc ρ => acc = ((items.take i).filter p).map f ∧ ρ = wipeD ρ1 vs, ⟨rfl, rfl⟩, ?_, ?_⟩
  · rintro i x acc ρ hx ⟨rfl, rfl⟩
    refine hs i x hx _ _ (fun hp ρ4 e => ⟨?_, e⟩) fun hp ρ4 e => ⟨?_, e⟩
    · rw [take_succ hx, List.filter_append, List.map_append, List.filter_cons_of_pos hp]
      rfl
    · rw [take_succ hx, List.filter_append, List.map_append, List.filter_cons_of_neg (by rw [hp]; decide)]
      simp
  · rintro acc ρ ⟨rfl, rfl⟩
    rw [List.take_length]
    exact hK
/-- what a comprehension draws: A ahead of turn i, R of what is drawn -/
theorem lc_draw {G : TDG} {TE : TD} {vs ts : List Nat} {items : List PyData} {ρ1 : DSt} {K : DV → DSt → Prop} (A : Nat → DSt → Prop) (R : PyData → Prop) (h0 : A 0 (wipeD ρ1 vs))
    (hs : ∀ (i : Nat) x ρ, items[i]? = some x → A i ρ → ∀ Q : PyData → DSt → Prop, (∀ d ρ4, R d → A (i + 1) (wipeD ρ4 vs) → Q d ρ4) → G x ρ fun ρ2 => TE ρ2 Q) (hK : ∀ ds ρ, ds.length = items.length → (∀ d ∈ ds, R d) → A items.length ρ → K (.l ds) ρ) (hl : items.length ≤ 100000) (hts : ts.all (vs.contains ·) = true := by rfl) : LcB items G ts DYes TE vs ρ1 K := by
  refine ⟨hl, hts, fun i acc ρ => acc.length = i ∧ (∀ d ∈ acc, R d) ∧ A i ρ, ⟨rfl, fun d h => by simp at h, h0⟩, ?_, ?_⟩
  · rintro i x acc ρ hx ⟨hl, hr, ha⟩
    refine hs i x ρ hx ha _ fun d ρ4 rd a4 => ⟨by rw [List.length_append, hl]; rfl, fun e he => ?_, a4⟩
    rcases List.mem_append.mp he with he | he
    · exact hr e he
    · cases List.mem_singleton.mp he
      exact rd
  · rintro acc ρ ⟨hl, hr, ha⟩
    exact hK acc ρ hl hr ha
end Dw
end
section
set_option Elab.async false
set_option linter.all false
set_option maxRecDepth 100000
set_option maxHeartbeats 4000000
/-! Tg, part Z: Dw: dicts. -/
namespace Dw
open PySem PySem.Spec PyProof.Rows L2 Tg LamX
/-- pairs with texts as keys, as data -/
def strP (more : List (Str × PyData)) : List (PyData × PyData) := more.map fun p => (.str p.1, p.2)
def putP (kvs : List (Str × PyData)) (x : Str) (d : PyData) : List (Str × PyData) := if (kvs.any fun p => decide (p.1 = x)) = true then kvs.map (fun p => if p.1 = x then (p.1, d) else p) else kvs ++ [(x, d)]
def mergeP (kvs more : List (Str × PyData)) : List (Str × PyData) := more.foldl (fun acc p => putP acc p.1 p.2) kvs
def lookP (x : Str) : List (Str × PyData) → Option PyData
  | [] => none
  | (y, d) :: r => if y = x then some d else lookP x r
def isM (d : PyData) (k : List (Str × PyData) → Prop) : Prop := ∃ kvs, d = .dict (strP kvs) ∧ k kvs
theorem rpP {H : Hp} : ∀ {kvs : List (Str × PyData)} {ks : List (Key × V)}, RpD H (strP kvs) ks → Paired (fun (p : Str × PyData) (q : Key × V) => q.1 = .inr p.1 ∧ Rp H p.2 q.2) kvs ks
  | [], ks, r => by
    simp only [strP, List.map_nil, RpD] at r
    subst r
    exact .nil
  | (x, d) :: kvs, ks, r => by
    simp only [strP, List.map_cons, RpD] at r
    obtain ⟨ky, v, l, rfl, e, r1, r2⟩ := r
    refine .cons ⟨?_, r1⟩ (rpP r2)
    cases ky with
    | inl i => cases e
    | inr y => cases e; rfl
theorem rpP_of {H : Hp} : ∀ {kvs : List (Str × PyData)} {ks : List (Key × V)}, Paired (fun (p : Str × PyData) (q : Key × V) => q.1 = .inr p.1 ∧ Rp H p.2 q.2) kvs ks → RpD H (strP kvs) ks
  | [], _, .nil => RpD.nil
  | (x, d) :: kvs, (k, v) :: ks, .cons h t => by
    obtain ⟨e, r⟩ := h
    simp only at e r
    subst e
    exact RpD.cons (k := .inr x) r (rpP_of t)
theorem pair_any {H : Hp} {x : Str} : ∀ {kvs : List (Str × PyData)} {ks : List (Key × V)}, Paired (fun (p : Str × PyData) (q : Key × V) => q.1 = .inr p.1 ∧ Rp H p.2 q.2) kvs ks → (kvs.any fun p => decide (p.1 = x)) = (ks.any fun kv => decide (kv.1 = .inr x))
  | _, _, .nil => rfl
  | (y, d) :: kvs, (k, v) :: ks, .cons h t => by
    obtain ⟨e, _⟩ := h
    simp only at e
    subst e
    simp only [List.any_cons, pair_any t, Sum.inr.injEq]
theorem pair_map {H : Hp} {x : Str} {d : PyData} {v : V} (rd : Rp H d v) : ∀ {kvs : List (Str × PyData)} {ks : List (Key × V)}, Paired (fun (p : Str × PyData) (q : Key × V) => q.1 = .inr p.1 ∧ Rp H p.2 q.2) kvs ks →
    Paired (fun (p : Str × PyData) (q : Key × V) => q.1 = .inr p.1 ∧ Rp H p.2 q.2) (kvs.map (fun p => if p.1 = x then (p.1, d) else p)) (ks.map (fun kv => if kv.1 = .inr x then (kv.1, v) else kv))
  | _, _, .nil => .nil
  | (y, e) :: kvs, (k, u) :: ks, .cons h t => by
    obtain ⟨e1, r1⟩ := h
    simp only at e1 r1
    subst e1
    refine .cons ?_ (pair_map rd t)
    by_cases q : y = x
    · simp only [q, if_true]
      exact ⟨trivial, rd⟩
    · simp only [q, if_false, Sum.inr.injEq]
      exact ⟨trivial, r1⟩
theorem pair_app {α β : Type} {F : α → β → Prop} : ∀ {xs us : List α} {ys vs : List β}, Paired F xs ys → Paired F us vs → Paired F (xs ++ us) (ys ++ vs)
  | _, _, _, _, .nil, k => k
  | _, _, _, _, .cons h t, k => .cons h (pair_app t k)
theorem pair_put {H : Hp} {kvs : List (Str × PyData)} {ks : List (Key × V)} {x : Str} {d : PyData} {v : V} (r : Paired (fun (p : Str × PyData) (q : Key × V) => q.1 = .inr p.1 ∧ Rp H p.2 q.2) kvs ks) (rd : Rp H d v) :
    Paired (fun (p : Str × PyData) (q : Key × V) => q.1 = .inr p.1 ∧ Rp H p.2 q.2) (putP kvs x d) (putK ks (.inr x) v) := by
  unfold putP putK
  rw [pair_any (x := x) r]
  split
  · exact pair_map rd r
  · exact pair_app r (.cons ⟨rfl, rd⟩ .nil)
theorem pair_merge {H : Hp} : ∀ {more kvs : List (Str × PyData)} {ks ms : List (Key × V)}, Paired (fun (p : Str × PyData) (q : Key × V) => q.1 = .inr p.1 ∧ Rp H p.2 q.2) kvs ks → Paired (fun (p : Str × PyData) (q : Key × V) => q.1 = .inr p.1 ∧ Rp H p.2 q.2) more ms →
    Paired (fun (p : Str × PyData) (q : Key × V) => q.1 = .inr p.1 ∧ Rp H p.2 q.2) (mergeP kvs more) (mergeK ks ms)
  | _, _, _, _, r, .nil => r
  | (x, d) :: more, kvs, ks, (k, v) :: ms, r, .cons h t => by
    obtain ⟨e1, r1⟩ := h
    simp only at e1 r1
    subst e1
    exact pair_merge (kvs := putP kvs x d) (ks := putK ks (.inr x) v) (pair_put r r1) t
theorem pair_look {H : Hp} {x : Str} {d : PyData} : ∀ {kvs : List (Str × PyData)} {ks : List (Key × V)}, Paired (fun (p : Str × PyData) (q : Key × V) => q.1 = .inr p.1 ∧ Rp H p.2 q.2) kvs ks → lookP x kvs = some d → ∃ v, valV ks (.inr x) = some v ∧ Rp H d v
  | (y, e) :: kvs, (k, u) :: ks, .cons h t, q => by
    obtain ⟨e1, r1⟩ := h
    simp only at e1 r1
    subst e1
    unfold lookP at q
    by_cases z : y = x
    · rw [if_pos z] at q
      cases q
      exact ⟨u, by simp [valV, z], r1⟩
    · rw [if_neg z] at q
      obtain ⟨v, h1, h2⟩ := pair_look t q
      exact ⟨v, by simpa [valV, z] using h1, h2⟩
theorem pair_lookN {H : Hp} {x : Str} : ∀ {kvs : List (Str × PyData)} {ks : List (Key × V)}, Paired (fun (p : Str × PyData) (q : Key × V) => q.1 = .inr p.1 ∧ Rp H p.2 q.2) kvs ks → lookP x kvs = none → valV ks (.inr x) = none
  | _, _, .nil, _ => rfl
  | (y, e) :: kvs, (k, u) :: ks, .cons h t, q => by
    obtain ⟨e1, r1⟩ := h
    simp only at e1 r1
    subst e1
    unfold lookP at q
    by_cases z : y = x
    · rw [if_pos z] at q
      cases q
    · rw [if_neg z] at q
      simpa [valV, z] using pair_lookN t q
theorem pair_keys {H : Hp} : ∀ {kvs : List (Str × PyData)} {ks : List (Key × V)}, Paired (fun (p : Str × PyData) (q : Key × V) => q.1 = .inr p.1 ∧ Rp H p.2 q.2) kvs ks → ks.map (·.1) = (kvs.map (·.1)).map Sum.inr
  | _, _, .nil => rfl
  | (y, e) :: kvs, (k, u) :: ks, .cons h t => by
    obtain ⟨e1, r1⟩ := h
    simp only at e1
    subst e1
    rw [List.map_cons, List.map_cons, List.map_cons, pair_keys t]
theorem rp_dict {H : Hp} {kvs : List (Str × PyData)} {w : V} (r : Rp H (.dict (strP kvs)) w) : ∃ a o ks, w = .ref a ∧ H a = some (.frz o (.dK ks)) ∧ Paired (fun (p : Str × PyData) (q : Key × V) => q.1 = .inr p.1 ∧ Rp H p.2 q.2) kvs ks := by
  simp only [Rp] at r
  rcases r with ⟨a, o, ks, e, h, rl⟩ | ⟨e, _⟩
  · exact ⟨a, o, ks, e, h, rpP rl⟩
  · exfalso
    cases kvs with
    | nil => cases e
    | cons p r => simp [strP] at e
/-! ### d[x], x in d -/
def DDGet (T U : TD) : TD := fun ρ K => T ρ fun d ρ1 => U ρ1 fun e ρ2 => isM d fun kvs => isS e fun x => ∃ v, lookP x kvs = some v ∧ K v ρ2
def DDIn (neg : Bool) (U T : TD) : TD := fun ρ K => U ρ fun e ρ1 => T ρ1 fun d ρ2 => isM d fun kvs => isS e fun x => K (.bool (if neg then !(lookP x kvs).isSome else (lookP x kvs).isSome)) ρ2
section
variable {C : DC}
instance iDGet {t u : TE} {T U : TD} [r : Ref C t T] [s : Ref C u U] : Ref C (tDGet t u) (DDGet T U) := ⟨fun {σ H Q ρ K} I h k =>
  r.go I h fun d ρ1 w H1 q1 k1 I1 r1 => s.go I1 q1 fun e ρ2 w2 H2 q2 k2 I2 r2 => by
    obtain ⟨kvs, rfl, q3⟩ := q2
    obtain ⟨x, rfl, v, hv, q4⟩ := isS_go q3
    obtain ⟨a, o, ks, rfl, ha, pr⟩ := rp_dict (r1.keep k2)
    obtain ⟨u, h1, h2⟩ := pair_look pr hv
    exact ⟨a, u, rfl, .inl ⟨ks, .inr x, .inr ⟨o, ha⟩, rp_str r2, h1.symm⟩, k _ _ _ _ q4 (k1.trans k2) I2 h2⟩⟩
theorem din_go {t u : TE} {T U : TD} [r : Ref C t T] [s : Ref C u U] {σ : L2.St} {H : Hp} {Q : VK} {ρ : DSt} {K : PyData → DSt → Prop} {neg : Bool} (I : DI C ρ σ H) (h : DDIn neg U T ρ K) (k : ∀ d ρ' w H', K d ρ' → Kp H H' → DI C ρ' σ H' → Rp H' d w → Q w H') :
    u σ H fun y H1 => t σ H1 fun x H2 => ∃ a o, x = .ref a ∧ DGet H2 a y o ∧ Q (.bl (if neg then !o.isSome else o.isSome)) H2 :=
  s.go I h fun e ρ1 w H1 q1 k1 I1 r1 => r.go I1 q1 fun d ρ2 w2 H2 q2 k2 I2 r2 => by
    obtain ⟨kvs, rfl, q3⟩ := q2
    obtain ⟨x, rfl, q4⟩ := isS_go q3
    obtain ⟨a, o, ks, rfl, ha, pr⟩ := rp_dict r2
    have hv : (valV ks (.inr x)).isSome = (lookP x kvs).isSome := by
      cases q : lookP x kvs with
      | none => rw [pair_lookN pr q]; rfl
      | some v =>
        obtain ⟨u, h1, _⟩ := pair_look pr q
        rw [h1]
        rfl
    exact ⟨a, valV ks (.inr x), rfl, .inl ⟨ks, .inr x, .inr ⟨o, ha⟩, rp_str (r1.keep k2), rfl⟩, k _ _ _ _ q4 (k1.trans k2) I2 (by rw [hv]; exact Rp.bl)⟩
instance iDIn {t u : TE} {T U : TD} [r : Ref C t T] [s : Ref C u U] : Ref C (tDIn u t) (DDIn false U T) := ⟨fun I h k => din_go I h k⟩
instance iDNotIn {t u : TE} {T U : TD} [r : Ref C t T] [s : Ref C u U] : Ref C (tDNotIn u t) (DDIn true U T) := ⟨fun I h k => din_go I h k⟩
end
/-! ### sorted(d), list(d), dict(pairs) -/
def NSortedD : LL := fun ds K => on1 ds fun d => isM d fun kvs => kvs.length < 64 ∧ ∀ ys : List Str, ys.Perm (kvs.map (·.1)) → sortedS ys = true → K (ys.map .str)
def NListD : LL := fun ds K => on1 ds fun d => isM d fun kvs => K (kvs.map fun p => .str p.1)
def cM (R : List PyData → (List (PyData × PyData) → Prop) → Prop) : List V → Hp → VK → Prop := fun xs H Q => ∃ ds K, RpL H ds xs ∧ R ds K ∧ ∀ z p H', K z → NewM H z p H' → Q (.ref p) H'
def pairsP (kvs : List (Str × PyData)) : List PyData := kvs.map fun p => .tuple [.str p.1, p.2]
def MDict : List PyData → (List (PyData × PyData) → Prop) → Prop := fun ds K => on1 ds fun d => isL d fun xs => ∃ kvs, xs = pairsP kvs ∧ K (strP (mergeP [] kvs))
theorem pairs_go {Kf : PySem.W.Frag} {H : Hp} : ∀ {kvs : List (Str × PyData)} {vs : List V}, RpL H (pairsP kvs) vs → ∃ (ps : List Addr) (ks : List (Key × V)), vs = ps.map V.ref ∧ Paired (fun p kv => SqT Kf H p [kV kv.1, kv.2]) ps ks ∧ Paired (fun (p : Str × PyData) (q : Key × V) => q.1 = .inr p.1 ∧ Rp H p.2 q.2) kvs ks
  | [], vs, r => by
    simp only [pairsP, List.map_nil, RpL] at r
    subst r
    exact ⟨[], [], rfl, .nil, .nil⟩
  | (x, d) :: kvs, vs, r => by
    simp only [pairsP, List.map_cons, RpL] at r
    obtain ⟨y, l, rfl, r1, r2⟩ := r
    obtain ⟨a, ws, rfl, ha, rl⟩ := rp_tup r1
    obtain ⟨u1, u2, rfl, h1, h2⟩ := rpL2 rl
    cases rp_str h1
    obtain ⟨ps, ks, e, p1, p2⟩ := pairs_go (Kf := Kf) r2
    exact ⟨a :: ps, (.inr x, u2) :: ks, by rw [e]; rfl, .cons (SqT.of ha) p1, .cons ⟨rfl, h2⟩ p2⟩
section
variable {X : Cx}
theorem dSortedD (hc : X.calm = true) : CallR X (.builtin "sorted") (cN NSortedD) := CallR.of (call_sortedD hc) fun x H Q q => by
  obtain ⟨ds, K, r, q, k⟩ := q
  obtain ⟨d, rfl, kvs, rfl, h64, q1⟩ := on1_go q
  obtain ⟨x, rfl, r1⟩ := rpL1 r
  obtain ⟨a, o, ks, rfl, ha, pr⟩ := rp_dict r1
  exact ⟨a, ks, kvs.map (·.1), rfl, .inr ⟨o, ha⟩, pair_keys pr, by rw [List.length_map]; exact h64, fun ys p pm so np => k _ _ _ (q1 ys pm so) ⟨_, np, rfl, rpL_strs_of⟩⟩
theorem dListD (hc : X.calm = true) : CallR X (.type "list") (cN NListD) := CallR.of (call_listD hc) fun x H Q q => by
  obtain ⟨ds, K, r, q, k⟩ := q
  obtain ⟨d, rfl, kvs, rfl, q1⟩ := on1_go q
  obtain ⟨x, rfl, r1⟩ := rpL1 r
  obtain ⟨a, o, ks, rfl, ha, pr⟩ := rp_dict r1
  refine ⟨a, ks, rfl, .inr ⟨o, ha⟩, fun p np => k _ _ _ q1 ⟨_, np, rfl, ?_⟩⟩
  have e := pair_keys pr
  have e2 : ks.map (fun kv => kV kv.1) = (kvs.map (·.1)).map V.str := by
    have := congrArg (List.map kV) e
    rw [List.map_map, List.map_map] at this
    exact this
  rw [e2, show (kvs.map fun p => PyData.str p.1) = (kvs.map (·.1)).map PyData.str by rw [List.map_map]; rfl]
  exact rpL_strs_of
theorem dDictP (hc : X.calm = true) : CallR X (.type "dict") (cM MDict) := CallR.of (call_dictP hc) fun x H Q q => by
  obtain ⟨ds, K, r, q, k⟩ := q
  obtain ⟨d, rfl, q1⟩ := on1_go q
  obtain ⟨xs, rfl, kvs, rfl, q2⟩ := isL_go q1
  obtain ⟨x, rfl, r1⟩ := rpL1 r
  obtain ⟨a, o, vs, rfl, ha, rl⟩ := rp_list r1
  obtain ⟨ps, ks, rfl, p1, p2⟩ := pairs_go (Kf := X.K) rl
  exact ⟨a, ps, ks, rfl, .inl (.inr ⟨o, ha⟩), p1, fun p np => k _ _ _ q2 ⟨_, np, rfl, rpP_of (pair_merge .nil p2)⟩⟩
end
def DCBM (R : List PyData → (List (PyData × PyData) → Prop) → Prop) (TA : TDA) : TN := fun ρ K => TA ρ fun ds ρ1 => R ds fun z => K (.m z) ρ1
section
variable {C : DC}
instance iCBM {R : List PyData → (List (PyData × PyData) → Prop) → Prop} {ta : TA} {TA : TDA} [ra : RefA C ta TA] : RefN C (tCB (cM R) ta) (DCBM R TA) := ⟨fun {σ H Q ρ K} I h k =>
  ra.go I h fun ds ρ1 ws H1 q1 k1 I1 r1 => ⟨ds, _, r1, q1, fun z p H3 q3 n3 => by
    obtain ⟨I3, k3, N3⟩ := I1.newM n3
    exact k _ _ _ _ q3 (k1.trans k3) I3 N3⟩⟩
/-! ### for k, v in d.items() -/
def IItems (T : TD) : TDI := fun ρ K => T ρ fun d ρ1 => match d with
  | .dict kds => K (kds.map fun p => .tuple [p.1, p.2]) ρ1
  | _ => False
theorem rpD_at {H : Hp} : ∀ {ds : List (PyData × PyData)} {xs : List (Key × V)} {i : Nat} {k : Key} {x : V}, RpD H ds xs → xs[i]? = some (k, x) → ∃ d, ds[i]? = some (kD k, d) ∧ Rp H d x
  | [], xs, i, k, x, r, h => by simp only [RpD] at r; subst r; simp at h
  | (ky, d) :: ds, xs, i, k, x, r, h => by
    simp only [RpD] at r
    obtain ⟨kk, y, r', rfl, rfl, r1, r2⟩ := r
    cases i with
    | zero => simp at h; obtain ⟨rfl, rfl⟩ := h; exact ⟨d, rfl, r1⟩
    | succ i => simpa using rpD_at r2 (by simpa using h)
theorem rpD_len {H : Hp} : ∀ {ds : List (PyData × PyData)} {xs : List (Key × V)}, RpD H ds xs → ds.length = xs.length
  | [], xs, r => by simp only [RpD] at r; subst r; rfl
  | (ky, d) :: ds, xs, r => by
    simp only [RpD] at r
    obtain ⟨kk, y, r', rfl, rfl, r1, r2⟩ := r
    rw [List.length_cons, List.length_cons, rpD_len r2]
theorem rp_key {H : Hp} : ∀ k : Key, Rp H (kD k) (kV k)
  | .inl i => Rp.int
  | .inr x => Rp.str
instance iiItems {t : TE} {T : TD} [r : Ref C t T] : RefI C (iItemsN t) (IItems T) := ⟨fun {σ H R ρ K} I h k =>
  r.go I h fun d ρ1 w H1 q1 k1 I1 r1 => by
    cases d with
    | dict kds =>
      simp only [Rp] at r1
      rcases r1 with ⟨a, o, kvs, rfl, ha, rl⟩ | ⟨rfl, a, o, rfl, ha, no, sm⟩
      · refine ⟨a, o, rfl, .inl ⟨kvs, ha, k _ _ _ _ q1 k1 I1 ⟨fun H2 => H2 a = some (.frz o (.dK kvs)), _, by rw [List.length_map, rpD_len rl]; exact walk_items, fun H2 kk => kk.fz _ _ _ ha, ?_⟩⟩⟩
        rintro i H2 x H3 hi kk ⟨T', x', y', rfl, nT, rfl, hx, hy⟩
        have hxy : kvs[i]? ≠ none := fun z => by simp [z] at hx
        cases q : kvs[i]? with
        | none => exact absurd q hxy
        | some kv =>
          obtain ⟨ky, v⟩ := kv
          simp [q] at hx hy
          subst hx hy
          obtain ⟨d, h1, h2⟩ := rpD_at rl q
          exact ⟨same_new nT, .tuple [kD ky, d], by simp [h1], Rp.tup upd_same (RpL.cons (rp_key ky) (RpL.cons ((h2.keep kk).same (same_new nT)) RpL.nil))⟩
      · refine ⟨a, o, rfl, .inr ⟨ha, no, sm, k _ _ _ _ q1 k1 I1 ⟨_, _, walk_itemsN, fun H2 kk => ⟨kk.fz _ _ _ ha, no, sm⟩, ?_⟩⟩⟩
        rintro i H2 x H3 hi kk ⟨T', rfl, nT, rfl⟩
        have : i = 0 := by simpa using hi
        subst this
        exact ⟨same_new nT, .tuple [.none, .int 1], rfl, Rp.tup upd_same (RpL.cons Rp.non (RpL.cons Rp.int RpL.nil))⟩
    | _ => exact q1.elim⟩
end
end Dw
end
section
set_option Elab.async false
set_option linter.all false
set_option maxRecDepth 100000
set_option maxHeartbeats 4000000
/-! Tg, part Za: Dw: several targets, some of them own; stores into own dicts; own lists looked at. -/
namespace Dw
open PySem PySem.Spec PyProof.Rows L2 Tg LamX
section
variable {C : DC}
theorem New.keep {ρ ρ' : DSt} {σ : L2.St} {H H' : Hp} {dv : DV} {p : Addr} {u : HO} (n : New C ρ σ H dv p) (hu : H p = some u) (k : Kp H H') (hu' : H' p = some u) (ap : ∀ (i : Nat) y, ρ'[i]? = some (some y) → y.mt = true → σ[i]? ≠ some (some (.ref p))) : New C ρ' σ H' dv p := by
  refine ⟨n.ow, ?_, ap⟩
  have h1 := n.ow
  have h2 := n.dv
  cases dv with
  | l xs =>
    obtain ⟨a, vs, e, h3, h4, h5⟩ := h2
    cases e
    rw [hu] at h3
    cases h3
    exact ⟨p, vs, rfl, hu', RpL.keep k _ _ h4, h5⟩
  | m xs =>
    obtain ⟨a, vs, e, h3, h4, h5⟩ := h2
    cases e
    rw [hu] at h3
    cases h3
    exact ⟨p, vs, rfl, hu', RpD.keep k _ _ h4, h5⟩
  | d x => cases h1
  | pot a c => cases h1
  | v x => cases h1
/-- what follows a new thing leaves it -/
theorem New.under {t : TE} {T : TD} [r : ∀ C', Ref C' t T] {ρ : DSt} {σ : L2.St} {H : Hp} {Q : VK} {K : PyData → DSt → Prop} {dv : DV} {p : Addr} (I : DI C ρ σ H) (n : New C ρ σ H dv p) (h : T ρ K)
    (k : ∀ d ρ' w H', K d ρ' → Kp H H' → DI C ρ' σ H' → New C ρ' σ H' dv p → Rp H' d w → Q w H') : t σ H Q := by
  obtain ⟨u, hu, ld, mu, n0, ns, nn⟩ := n.ld
  refine (r (C.hold p u nn)).go (I.hold hu n.ap) h fun d ρ1 w H1 q1 k1 I1 r1 => ?_
  obtain ⟨J1, hp1, ap1⟩ := I1.unhold
  exact k _ _ _ _ q1 k1 J1 (n.keep hu k1 hp1 ap1) r1
theorem New.underN {t : TE} {T : TN} [r : ∀ C', RefN C' t T] {ρ : DSt} {σ : L2.St} {H : Hp} {Q : VK} {K : DV → DSt → Prop} {dv : DV} {p : Addr} (I : DI C ρ σ H) (n : New C ρ σ H dv p) (h : T ρ K)
    (k : ∀ dw ρ' q H', K dw ρ' → Kp H H' → DI C ρ' σ H' → New C ρ' σ H' dv p → New C ρ' σ H' dw q → q ≠ p → Q (.ref q) H') : t σ H Q := by
  obtain ⟨u, hu, ld, mu, n0, ns, nn⟩ := n.ld
  refine (r (C.hold p u nn)).go (I.hold hu n.ap) h fun dw ρ1 q H1 q1 k1 I1 N1 => ?_
  obtain ⟨J1, hp1, ap1⟩ := I1.unhold
  obtain ⟨d1, d2⟩ := N1.dv.unhold
  have mt : dw.mt = true := N1.mt
  exact k _ _ _ _ q1 k1 J1 (n.keep hu k1 hp1 ap1) ⟨N1.ow, d1, N1.ap⟩ fun z => d2 mt (by rw [z])
def DParND (i j : Nat) (T : TN) (U : TD) : TDS := fun DD ρ => T ρ fun dv ρ1 => U ρ1 fun d ρ2 => DD.nx ((ρ2.set i (some dv)).set j (some (.d d)))
def DParNN (i j : Nat) (T U : TN) : TDS := fun DD ρ => T ρ fun dv ρ1 => U ρ1 fun dw ρ2 => i ≠ j ∧ DD.nx ((ρ2.set i (some dv)).set j (some dw))
instance iParND {i j : Nat} {t u : TE} {T : TN} {U : TD} [r : RefN C t T] [s : ∀ C', Ref C' u U] : RefS C (tPar i j (tCons t (tCons u tNil))) (DParND i j T U) := ⟨fun {D σ H ρ DD} I h n rt bk ct =>
  r.go I h fun dv ρ1 p H1 q1 k1 I1 N1 => New.under I1 N1 q1 fun d ρ2 w H2 q2 k2 I2 N2 r2 => ⟨_, _, rfl, n _ _ _ q2 (k1.trans k2) ((I2.set N2.dv fun _ j y _ e m => N2.ap j y e m).setD r2)⟩⟩
instance iParNN {i j : Nat} {t u : TE} {T U : TN} [r : RefN C t T] [s : ∀ C', RefN C' u U] : RefS C (tPar i j (tCons t (tCons u tNil))) (DParNN i j T U) := ⟨fun {D σ H ρ DD} I h n rt bk ct =>
  r.go I h fun dv ρ1 p H1 q1 k1 I1 N1 => New.underN I1 N1 q1 fun dw ρ2 q H2 q2 k2 I2 N2 M2 ne => ⟨_, _, rfl, n _ _ _ q2.2 (k1.trans k2) (by
    have I3 := I2.set (i := i) N2.dv fun _ j y _ e m => N2.ap j y e m
    refine I3.set M2.dv fun _ l y nl e m => ?_
    rcases get_set e with ⟨rfl, e2, hl⟩ | ⟨ne2, e2⟩
    · rw [List.getElem?_set_self (by rw [← I2.len]; exact hl)]
      intro z
      injection z with z
      injection z with z
      injection z with z
      exact ne z.symm
    · rw [List.getElem?_set_ne (Ne.symm ne2)]
      exact M2.ap l y e2 m)⟩⟩
/-- i, j, k = new, e, f -/
def DPar3N (i j l : Nat) (T : TN) (U V : TD) : TDS := fun DD ρ => T ρ fun dv ρ1 => U ρ1 fun d ρ2 => V ρ2 fun e ρ3 => DD.nx (((ρ3.set i (some dv)).set j (some (.d d))).set l (some (.d e)))
instance iPar3N {i j l : Nat} {t u v : TE} {T : TN} {U V : TD} [r : RefN C t T] [s : ∀ C', Ref C' u U] [s' : ∀ C', Ref C' v V] : RefS C (tPar3 i j l (tCons t (tCons u (tCons v tNil)))) (DPar3N i j l T U V) := ⟨fun {D σ H ρ DD} I h n rt bk ct =>
  r.go I h fun dv ρ1 p H1 q1 k1 I1 N1 => New.under I1 N1 q1 fun d ρ2 w H2 q2 k2 I2 N2 r2 => New.under I2 N2 q2 fun e ρ3 w3 H3 q3 k3 I3 N3 r3 =>
    ⟨_, _, _, rfl, n _ _ _ q3 ((k1.trans k2).trans k3) (((I3.set N3.dv fun _ j y _ e m => N3.ap j y e m).setD (r2.keep k3)).setD r3)⟩⟩
def DPar3 (i j l : Nat) (T U V : TD) : TDS := fun DD ρ => T ρ fun c ρ1 => U ρ1 fun d ρ2 => V ρ2 fun e ρ3 => DD.nx (((ρ3.set i (some (.d c))).set j (some (.d d))).set l (some (.d e)))
instance iPar3 {i j l : Nat} {t u v : TE} {T U V : TD} [r : Ref C t T] [s : Ref C u U] [s' : Ref C v V] : RefS C (tPar3 i j l (tCons t (tCons u (tCons v tNil)))) (DPar3 i j l T U V) := ⟨fun {D σ H ρ DD} I h n rt bk ct =>
  r.go I h fun c ρ1 w H1 q1 k1 I1 r1 => s.go I1 q1 fun d ρ2 w2 H2 q2 k2 I2 r2 => s'.go I2 q2 fun e ρ3 w3 H3 q3 k3 I3 r3 =>
    ⟨_, _, _, rfl, n _ _ _ q3 ((k1.trans k2).trans k3) (((I3.setD (r1.keep (k2.trans k3))).setD (r2.keep k3)).setD r3)⟩⟩
/-! ### d[x] = e, d own -/
def GPut (i : Nat) (U : TD) : TDG := fun d ρ K => (∃ kvs, ρ[i]? = some (some (.m kvs))) ∧ U ρ fun e ρ1 => isS e fun x => match ρ1[i]? with
  | some (some (.m kds)) => ∃ kvs, kds = strP kvs ∧ kvs.length < 1000000 ∧ K (ρ1.set i (some (.m (strP (putP kvs x d)))))
  | _ => False
instance igPut {i : Nat} {u : TE} {U : TD} [s : Ref C u U] : RefG C (gSub (tVar i) u rSetD) (GPut i U) [] := ⟨fun {σ H Q ρ K d w} I r h k => by
  obtain ⟨⟨kv0, e0⟩, h⟩ := h
  obtain ⟨w0, hw0, a0, ks0, rfl, ha0, _⟩ := I.at_ i _ e0
  refine ⟨_, hw0, s.go I h fun e ρ1 w1 H1 q1 k1 I1 r1 => ?_⟩
  obtain ⟨x, rfl, q2⟩ := isS_go q1
  split at q2
  · rename_i kds e
    obtain ⟨kvs, rfl, hl, q3⟩ := q2
    obtain ⟨w2, hw2, a, ks, rfl, ha, rl, n0, ns, nn⟩ := I1.at_ i _ e
    rw [hw0] at hw2
    cases hw2
    have pr := rpP rl
    have hlen : kvs.length = ks.length := Paired.length pr
    have kp := kp_but ha True.intro (But.upd (p := a0) (H := H1) (o := .dK (putK ks (.inr x) w)))
    refine ⟨a0, _, rfl, .inl ⟨ks, .inr x, ha, rp_str r1, by rw [sizeLine_eq]; omega, rfl⟩, ?_⟩
    have I2 := (I1.forget i).but ha True.intro (But.upd (o := .dK (putK ks (.inr x) w))) n0 ns nn (DI.own I1 e hw0 rfl)
    have I3 := I2.tell (i := i) (dv := .m (strP (putP kvs x d))) hw0 ⟨a0, _, rfl, upd_same, RpD.keep kp _ _ (rpP_of (pair_put pr (r.keep k1))), n0, ns, nn⟩ fun _ j y ne ej my => DI.own I1 e hw0 rfl j y ej my
    rw [set_set] at I3
    exact k _ _ _ q3 (k1.trans kp) I3 (Tch.refl _)
  · exact q2.elim⟩
/-! ### own lists looked at -/
/-- xs[e], xs own -/
def DPeek (i : Nat) (U : TD) : TD := fun ρ K => (∃ xs, ρ[i]? = some (some (.l xs))) ∧ U ρ fun e ρ1 => isI e fun j => match ρ1[i]? with
  | some (some (.l xs)) => ∃ x, atI xs j = some x ∧ K x ρ1
  | _ => False
instance iPeek {Kf : PySem.W.Frag} {i : Nat} {u : TE} {U : TD} [s : Ref C u U] : Ref C (tOp (rIxL Kf) (tVar i) u) (DPeek i U) := ⟨fun {σ H Q ρ K} I h k => by
  obtain ⟨⟨xs0, e0⟩, h⟩ := h
  obtain ⟨w0, hw0, a0, vs0, rfl, ha0, _⟩ := I.at_ i _ e0
  refine ⟨_, hw0, s.go I h fun e ρ1 w1 H1 q1 k1 I1 r1 => ?_⟩
  obtain ⟨j, rfl, q2⟩ := isI_go q1
  split at q2
  · rename_i xs e
    obtain ⟨x, hx, q3⟩ := q2
    obtain ⟨w2, hw2, a, vs, rfl, ha, rl, _⟩ := I1.at_ i _ e
    rw [hw0] at hw2
    cases hw2
    obtain ⟨v, h1, h2⟩ := at_go rl hx
    exact ⟨a0, vs, j, v, rfl, rp_int r1, SqL.of ha, h1, k _ _ _ _ q3 k1 I1 h2⟩
  · exact q2.elim⟩
/-- xs != [], xs own -/
def DNe0 (i : Nat) : TD := fun ρ K => match ρ[i]? with
  | some (some (.l xs)) => K (.bool (!xs.isEmpty)) ρ
  | _ => False
instance iNe0 {Kf : PySem.W.Frag} {i : Nat} : Ref C (tOp (rNeL0 Kf) (tVar i) (tLst tNil)) (DNe0 i) := ⟨fun {σ H Q ρ K} I h k => by
  unfold DNe0 at h
  split at h
  · rename_i xs e
    obtain ⟨w, hw, a, vs, rfl, ha, rl, _⟩ := I.at_ i _ e
    refine ⟨_, hw, len_ok (Nat.zero_le _), fun p np => ⟨a, p, vs, rfl, rfl, SqL.of (same_new np _ _ ha), SqL.of upd_same, ?_⟩⟩
    have e2 : vs.isEmpty = xs.isEmpty := by
      have := rpL_len rl
      cases xs <;> cases vs <;> first | rfl | cases this
    rw [e2]
    exact k _ _ _ _ h (Kp.new np) (I.same (same_new np)) Rp.bl
  · exact h.elim⟩
/-- xs.pop(e), xs own -/
def DPop (i : Nat) (U : TD) : TD := fun ρ K => (∃ xs, ρ[i]? = some (some (.l xs))) ∧ U ρ fun e ρ1 => isI e fun j => match ρ1[i]? with
  | some (some (.l xs)) => ∃ (n : Nat) (x : PyData), j = n ∧ xs[n]? = some x ∧ xs.length ≤ 1000000 ∧ K x (ρ1.set i (some (.l (xs.eraseIdx n))))
  | _ => False
theorem rpL_erase {H : Hp} : ∀ {ds : List PyData} {xs : List V} (i : Nat), RpL H ds xs → RpL H (ds.eraseIdx i) (xs.eraseIdx i)
  | [], xs, i, r => by simp only [RpL] at r; subst r; simpa using RpL.nil
  | d :: ds, xs, 0, r => by
    simp only [RpL] at r
    obtain ⟨x, r', rfl, h1, h2⟩ := r
    simpa using h2
  | d :: ds, xs, i + 1, r => by
    simp only [RpL] at r
    obtain ⟨x, r', rfl, h1, h2⟩ := r
    simpa using RpL.cons h1 (rpL_erase i h2)
instance iPop {Kf : PySem.W.Frag} {i : Nat} {u : TE} {U : TD} [s : Ref C u U] : Ref C (tBM Kf "list" rPopAt (tVar i) (tCons u tNil)) (DPop i U) := ⟨fun {σ H Q ρ K} I h k => by
  obtain ⟨⟨xs0, e0⟩, h⟩ := h
  obtain ⟨w0, hw0, a0, vs0, rfl, ha0, _⟩ := I.at_ i _ e0
  refine ⟨_, hw0, .inl ⟨rfl, vs0, SqL.of ha0⟩, s.go I h fun e ρ1 w1 H1 q1 k1 I1 r1 => ?_⟩
  obtain ⟨j, rfl, q2⟩ := isI_go q1
  split at q2
  · rename_i xs e
    obtain ⟨n, x, rfl, hx, hl, q3⟩ := q2
    obtain ⟨w2, hw2, a, vs, rfl, ha, rl, n0, ns, nn⟩ := I1.at_ i _ e
    rw [hw0] at hw2
    cases hw2
    obtain ⟨v, h1, h2⟩ := rpL_at rl hx
    have hn := (List.getElem?_eq_some_iff.mp h1).1
    have hlen := rpL_len rl
    have kp := kp_but ha True.intro (But.upd (p := a0) (H := H1) (o := .lst (vs.eraseIdx n)))
    refine ⟨a0, vs, n, n, v, rfl, by rw [rp_int r1], ha, by omega, by omega, ?_, h1, ?_⟩
    · unfold seqIndex?
      simp
      omega
    · have I2 := (I1.forget i).but ha True.intro (But.upd (o := .lst (vs.eraseIdx n))) n0 ns nn (DI.own I1 e hw0 rfl)
      have I3 := I2.tell (i := i) (dv := .l (xs.eraseIdx n)) hw0 ⟨a0, _, rfl, upd_same, RpL.keep kp _ _ (rpL_erase n rl), n0, ns, nn⟩ fun _ j y ne ej my => DI.own I1 e hw0 rfl j y ej my
      rw [set_set] at I3
      exact k _ _ _ _ q3 (k1.trans kp) I3 (h2.keep kp)
  · exact q2.elim⟩
/-- len(xs), xs own -/
def rLenO (Kf : PySem.W.Frag) : List V → Hp → VK → Prop := fun xs H Q => ∃ x n, xs = [x] ∧ LenV Kf x H n ∧ Q (.int n) H
theorem call_lenO {X : Cx} : CallR X (.builtin "len") (rLenO X.K) := call_len
def DLenO (i : Nat) : TD := fun ρ K => match ρ[i]? with
  | some (some (.l xs)) => K (.int xs.length) ρ
  | _ => False
instance iLenO {Kf : PySem.W.Frag} {i : Nat} : Ref C (tCB (rLenO Kf) (tCons (tVar i) tNil)) (DLenO i) := ⟨fun {σ H Q ρ K} I h k => by
  unfold DLenO at h
  split at h
  · rename_i xs e
    obtain ⟨w, hw, a, vs, rfl, ha, rl, _⟩ := I.at_ i _ e
    refine ⟨_, hw, _, _, rfl, .inl ⟨vs, SqL.of ha, rfl⟩, ?_⟩
    rw [← rpL_len rl]
    exact k _ _ _ _ h (Kp.refl _) I Rp.int
  · exact h.elim⟩
end
end Dw
end
section
set_option Elab.async false
set_option linter.all false
set_option maxRecDepth 100000
set_option maxHeartbeats 4000000
/-! Tg, part Zb: Dw: list(text), list + list, text * number. -/
namespace Dw
open PySem PySem.Spec PyProof.Rows L2 Tg LamX
section
variable {X : Cx}
def signs (a : Str) : List PyData := a.cps.toList.map fun c => .str ⟨#[c]⟩
def NListS : LL := fun ds K => on1 ds fun d => isS d fun a => a.length ≤ 16777216 ∧ K (signs a)
theorem vals_go : ∀ (l : List Nat) (us : List Value), us.length = l.length → (∀ (j : Nat) (v : Value), us[j]? = some v → ∃ (c : Nat) (u : Tok), l[j]? = some c ∧ v = Value.str ⟨#[c]⟩ u) → Vals (l.map fun c => V.str ⟨#[c]⟩) us
  | [], [], _, _ => .nil
  | [], u :: us, h, _ => by cases h
  | c :: l, [], h, _ => by cases h
  | c :: l, u :: us, h, k => by
    obtain ⟨c', t, e1, e2⟩ := k 0 u rfl
    cases e1
    exact .cons ⟨t, e2⟩ (vals_go l us (by simpa using h) fun j v e => by simpa using k (j + 1) v (by simpa using e))
theorem vals_signs {x : Str} {acc : Array Value} (h : ItemsOf (SignAt x) acc x.cps.size) : Vals (x.cps.toList.map fun c => V.str ⟨#[c]⟩) acc.toList :=
  vals_go _ _ (by simpa using h.1) fun j v e => by
    obtain ⟨c, u, e1, e2⟩ := h.2 j v (by simpa using e)
    exact ⟨c, u, by simpa using e1, e2⟩
theorem rpL_signs {H : Hp} : ∀ {l : List Nat}, RpL H (l.map fun c => PyData.str ⟨#[c]⟩) (l.map fun c => V.str ⟨#[c]⟩)
  | [] => RpL.nil
  | c :: l => RpL.cons Rp.str rpL_signs
theorem call_list_str1 (hc : X.calm = true) : CallR X (.type "list") (fun xs H Q => ∃ x : Str, xs = [.str x] ∧ x.length ≤ sizeLine ∧ ∀ l, H l = none → Q (.ref l) (upd H l (.lst (x.cps.toList.map fun c => V.str ⟨#[c]⟩)))) := by
  intro pins s σ H xs us Q I r h
  obtain ⟨x, rfl, hz, q⟩ := h
  obtain ⟨u, rfl, rx⟩ := vals1 r
  obtain ⟨t, rfl⟩ := rx
  refine call_list_str (I.ok.hd hc) x t (fun h' tk acc' c' kp e it => ?_) hz
  refine ⟨.ref s.heap.objs.size, _, I.laid (t' := tk) kp (Nat.le_refl _) (show ObjOk X.prog X.w _ h' _ (.lst _) from ⟨by rw [List.length_map]; exact hz, acc'.toList, c', vals_signs it, by simpa using e⟩), rfl, q _ (I.hok.fresh (Nat.le_refl _))⟩
theorem dListS (hc : X.calm = true) : CallR X (.type "list") (cN NListS) := CallR.of (call_list_str1 hc) fun x H Q q => by
  obtain ⟨ds, K, r, q, k⟩ := q
  obtain ⟨d, rfl, q1⟩ := on1_go q
  obtain ⟨x, rfl, r1⟩ := rpL1 r
  obtain ⟨a, rfl, hz, q2⟩ := isS_go q1
  cases rp_str r1
  exact ⟨a, rfl, by rw [sizeLine_eq]; exact hz, fun l nl => k _ _ _ q2 ⟨_, nl, rfl, rpL_signs⟩⟩
/-! ### list + list -/
theorem op_catL : OpR X (binaryOp .Add) (fun x y H Q => ∃ l b xs ys, x = .ref l ∧ y = .ref b ∧ Rd H l (.lst xs) ∧ Rd H b (.lst ys) ∧ xs.length + ys.length ≤ sizeLine ∧ ∀ p, H p = none → Q (.ref p) (upd H p (.lst (xs ++ ys)))) := by
  intro pins s σ H x y v u Q I rx ry h
  obtain ⟨l, b, xs, zs, rfl, rfl, hH, hB, hz, q⟩ := h
  cases rx
  cases ry
  obtain ⟨z, its, n, r, e⟩ := hH.ok I.hok
  obtain ⟨z2, its2, n2, r2, e2⟩ := hB.ok I.hok
  have l1 := r.length
  have l2 := r2.length
  refine PySem.P.add_list e e2 ?_ (by rw [List.size_toArray, List.size_toArray]; omega)
  have ea : its.toArray ++ its2.toArray = (its ++ its2).toArray := by simp
  rw [ea]
  exact ⟨.ref _, _, I.lnew (t' := s.toks) (r.append r2) (by rw [List.length_append]; omega), rfl, q _ I.fresh⟩
theorem rpL_append {H : Hp} : ∀ {ds es : List PyData} {vs ws : List V}, RpL H ds vs → RpL H es ws → RpL H (ds ++ es) (vs ++ ws)
  | [], es, vs, ws, r, r' => by
    simp only [RpL] at r
    subst r
    exact r'
  | d :: ds, es, vs, ws, r, r' => by
    simp only [RpL] at r
    obtain ⟨x, xs, rfl, h1, h2⟩ := r
    exact RpL.cons h1 (rpL_append h2 r')
theorem dCat : OpR X (binaryOp .Add) (rN NCat) := OpR.of op_catL fun x y H Q q => by
  obtain ⟨d, e, K, r1, r2, q, k⟩ := q
  obtain ⟨xs, rfl, q1⟩ := isL_go q
  obtain ⟨ys, rfl, hz, q2⟩ := isL_go q1
  obtain ⟨p, o, vs, rfl, ha, rl⟩ := rp_list r1
  obtain ⟨p', o', vs', rfl, ha', rl'⟩ := rp_list r2
  exact ⟨p, p', vs, vs', rfl, rfl, (.inr ⟨o, ha⟩), (.inr ⟨o', ha'⟩), by rw [sizeLine_eq, ← rpL_len rl, ← rpL_len rl']; exact hz, fun l nl => k _ _ _ q2 ⟨_, nl, rfl, rpL_append rl rl'⟩⟩
/-! ### text * number -/
theorem op_mulS : OpR X (binaryOp .Mult) (fun x y H Q => ∃ i j, x = .str i ∧ y = .int j ∧ (j = 0 ∨ j = 1) ∧ Q (.str (if j = 1 then i else "")) H) := by
  intro pins s σ H x y v u Q I rx ry h
  obtain ⟨i, j, rfl, rfl, hj, q⟩ := h
  obtain ⟨t, rfl⟩ := rx
  obtain ⟨t', rfl⟩ := ry
  rcases hj with rfl | rfl
  · exact PySem.P.mul_str_none (by decide) (by decide) ⟨.str "", H, I.tok _, ⟨_, rfl⟩, q⟩
  · refine PySem.P.mul_str (by decide) (fun _ h => by simp at h) (fun _ h => by simp at h) ?_
    exact ⟨.str i, H, I, ⟨_, rfl⟩, q⟩
theorem dMulX : OpR X (binaryOp .Mult) (rD RMulX) := OpR.of (OpR.or dMul op_mulS) fun x y H Q q => by
  obtain ⟨d, e, K, r1, r2, q, k⟩ := q
  unfold RMulX at q
  split at q
  · exact .inl ⟨_, _, K, r1, r2, q, k⟩
  · cases rp_str r1
    cases rp_int r2
    exact .inr ⟨_, _, rfl, rfl, q.1, k _ _ _ q.2.2 (fun _ _ e => e) Rp.str⟩
  · exact q.elim
end
/-- i, j, k = e, new, f -/
def DPar3M (i j l : Nat) (U : TD) (T : TN) (V : TD) : TDS := fun DD ρ => U ρ fun d ρ1 => T ρ1 fun dv ρ2 => V ρ2 fun e ρ3 => DD.nx (((ρ3.set i (some (.d d))).set j (some dv)).set l (some (.d e)))
section
variable {C : DC}
instance iPar3M {i j l : Nat} {t u v : TE} {T : TN} {U V : TD} [s : Ref C u U] [r : RefN C t T] [s' : ∀ C', Ref C' v V] : RefS C (tPar3 i j l (tCons u (tCons t (tCons v tNil)))) (DPar3M i j l U T V) := ⟨fun {D σ H ρ DD} I h n rt bk ct =>
  s.go I h fun d ρ1 w H1 q1 k1 I1 r1 => r.go I1 q1 fun dv ρ2 p H2 q2 k2 I2 N2 => New.under I2 N2 q2 fun e ρ3 w3 H3 q3 k3 I3 N3 r3 =>
    ⟨_, _, _, rfl, n _ _ _ q3 ((k1.trans k2).trans k3) (by
      have r1' := r1.keep (k2.trans k3)
      have I4 := I3.setD (i := i) r1'
      refine (I4.set N3.dv fun _ j' y ne e m => ?_).setD r3
      rcases get_set e with ⟨rfl, e2, hl⟩ | ⟨ne2, e2⟩
      · cases e2
        cases m
      · rw [List.getElem?_set_ne (Ne.symm ne2)]
        exact N3.ap j' y e2 m)⟩⟩
end
end Dw
end
section
set_option Elab.async false
set_option linter.all false
set_option maxRecDepth 100000
set_option maxHeartbeats 4000000
/-! Tg, part Zc: Dw: e.replace of written texts, behind a test that gives a token out. -/
namespace Dw
open PySem PySem.Spec PyProof.Rows L2 Tg LamX CwR
section
variable {X : Cx}
/-- behind a test against a written text a token is out -/
theorem pss_ifT {op : CmpOp} {r : R2} {e : Expr} {te : TE} {y : Str} {j : Nat} {c0 pos pos' : Pos} {a b rest : List Stmt} {t u v : TS} (ho : OpR X (compareOp op) r) (he : PE X e te) (hm : behindInMarks op (.Constant (.str y) j c0) = false) (ha : PSs X a t) (hb : PSs X b u) (hr : PSsT X rest v) :
    PSs X (.If (.Compare e [op] [.Constant (.str y) j c0] pos) a b pos' :: rest) (tSeq (tIfS (tTest (tOp r te (tC (.str y)))) t u) v) := by
  refine ⟨fun pins s σ H D I h => ?_⟩
  refine wpAny_execs_cons (wpAny_If (wpAny_isTrue_Compare1 (thn (he.run pins s σ H _ I h) fun w s1 ⟨x, H1, I1, r1, q1⟩ => Calls.Constant_str ?_) hm))
  refine wpAny_mono (PySem.wpAny_toks (ho pins { s1 with toks := s1.toks + 1 } σ H1 x (.str y) w _ _ (I1.tok _) r1 ⟨_, rfl⟩ q1)) (fun c s3 ⟨hk, z, H3, I3, r3, k, e, q3⟩ => ?_) fun _ _ z => z.2
  subst e
  cases r3
  refine wpAny_truthy_bool ?_
  have h1 : 1 ≤ s3.toks := Nat.le_trans (Nat.le_add_left 1 s1.toks) hk
  have fin : ∀ {ss : List Stmt} {tt : TS}, PSs X ss tt → tt { D with nx := v D } σ H3 → wpAny (model X.prog X.w) X.A (execs ss X.env) (fun f s' => match f with
      | .next => wpAny (model X.prog X.w) X.A (execs rest X.env) (SP X pins D) X.xe s'
      | f => SP X pins D f s') X.xe s3 := fun {ss tt} hs q => by
    refine wpAny_mono (PySem.wpAny_toks (hs.run pins s3 σ H3 { D with nx := v D } I3 q)) (fun f s4 q => ?_) fun _ _ z => z.2
    obtain ⟨hk, q⟩ := q
    cases f with
    | next =>
      obtain ⟨σ', H', I', q⟩ := q
      exact hr pins s4 σ' H' D (Nat.le_trans h1 hk) I' q
    | ret v => exact q
    | brk => exact q
    | cont => exact q
  cases k with
  | true => exact fin ha q3
  | false => exact fin hb q3
theorem pst_set {i : Nat} {x : Str} {e : Expr} {te : TE} {pos pos' : Pos} (hN : X.N.Nodup) (hi : X.N[i]? = some x) (hx : Loc X.env.scope x) (he : PET X e te) (hs : swapsWith e (some (.Name x pos')) pos.line X.env = pure false := by rfl) (hf : X.fn x = true ∨ X.env.scope.names.lookup x = some .local := by first | exact .inl rfl | exact .inr rfl | assumption) :
    PST X (.Assign [.Name x pos'] e pos) (tAsg te (gName i)) := by
  intro pins s σ H D h0 I h
  refine wpAny_Assign_Name (thn (he pins s σ H _ h0 I h) fun v s1 ⟨y, H1, I1, r1, q1⟩ => ?_) hs
  exact store_ok I1 hN hi hx r1 (fun s2 I2 => ⟨_, H1, I2, q1⟩) hf
end
def DRepl (T : TD) (y z : Str) : TD := fun ρ K => T ρ fun d ρ1 => isS d fun x => x.length + (x.length + 1) * z.length ≤ 16777216 ∧ K (.str (Txt.replace x y z)) ρ1
instance iRepl {C : DC} {t : TE} {T : TD} {y z : Str} [r : Ref C t T] : Ref C (tReplC t y z) (DRepl T y z) := ⟨fun {σ H Q ρ K} I h k =>
  r.go I h fun d ρ1 w H1 q1 k1 I1 r1 => by
    obtain ⟨x, rfl, h1, q2⟩ := isS_go q1
    exact ⟨x, rp_str r1, h1, k _ _ _ _ q2 k1 I1 Rp.str⟩⟩
end Dw
end
section
set_option Elab.async false
set_option linter.all false
set_option maxRecDepth 100000
set_option maxHeartbeats 4000000
/-! Tg, part Zd: x(lambda: body, word), and what it is in Dw. -/
namespace Dw
open PySem PySem.Spec PyProof.Rows L2 Tg LamX
/-- as GivesTo, a written text handed over beside the lambda -/
def GivesTo2 (X : Cx) (Ng : List Str) (x : Str) (sg : Scope) (g : Addr) (cdg : Value) (bg : List Stmt) (a : Str) (q wd : Str) (TT : (XK → Hp → VK → Prop) → Hp → VK → Prop) : Prop :=
  ∀ (f c' : Addr) (s : Shared) (H : Hp) (Q : VK) (tl : XK → Hp → VK → Prop),
    (∀ (W : WX) (pn : List (Addr × Obj)) (xe : Value → Shared → Prop) (E : XK) (p1 p2 : Pos), Takes ((cxOf C8.CX0 X.prog X.w X.K X.mg X.base Ng x sg g cdg X.A X.stack s H C8.E0).tr pn xe) W →
      PE ((cxOf C8.CX0 X.prog X.w X.K X.mg X.base Ng x sg g cdg X.A X.stack s H C8.E0).tr pn xe) (.Call (.Name a p1) [] [] p2) (fun σZ HZ Q => (∀ cls d H', E cls d H' → W cls d σZ H') ∧ σZ[0]? = some (some (.ref f)) ∧ HZ c' = some (CodeO c' q) ∧ tl E HZ Q)) →
    H c' = some (CodeO c' q) → TT tl H Q →
    ∃ t, PSs (cxOf C8.CX0 X.prog X.w X.K X.mg X.base Ng x sg g cdg X.A X.stack s H C8.E0).nox bg t ∧ t { nx := fun _ H' => Q .non H', rt := Q } (L2.start Ng [.ref f, .str wd]) H
section
variable {X : Cx} {pins : List (Addr × Obj)} {σ : L2.St} {H : Hp} {s : Shared}
/-- x(), in the def that got the lambda; what may be let out is told at the very state -/
theorem pe_act2 {CXg : CXT} {Eg : XK} {Ng : List Str} {qg : Str} {sg : Scope} {g f c' : Addr} {cdg pm ctv : Value} {params : Arguments} {body : Expr} {scope : Scope} {k i : Nat} {a : Str} {pn : List (Addr × Obj)} {xe : Value → Shared → Prop} {W : WX} {E : XK} {tb : TE} {p1 p2 : Pos}
    (I : Inv X pins σ H s) (L : LamS X.env.scope scope) (hf : s.heap.get? f = some (PySem.W.kla_obj "<lambda>" (X.env.qual ++ "<lambda>") params body scope (cloFrom X.env.cells scope.names []) pm c' ctv)) (hfn : H f = none) (hfr : f ∉ frs X.stack)
    (hbind : bindArgs (PySem.W.kla_fn "<lambda>" (X.env.qual ++ "<lambda>") params body scope (cloFrom X.env.cells scope.names []) pm (.ref c') ctv) ⟨[], []⟩ = pure [])
    (tk : Takes ((cxOf CXg X.prog X.w X.K X.mg X.base Ng qg sg g cdg X.A X.stack s H Eg).tr pn xe) W) (hr : Room (k + 1) (X.A.deeper (envOfC qg sg s.heap.objs.size g cdg)))
    (hbody : ∀ (A : Around) (outer : List Env) (s : Shared) (H : Hp), Room k (A.deeper (lamEnv X scope s.heap.objs.size f c')) → PE (lamCx X A outer s H E scope f c') body tb)
    (hN : Ng[i]? = some a) (hv : Vis sg a) (hd : (a == ("__debug__" : Str)) = false := by decide) (hcd : (a == ("__classdict__" : Str)) = false := by decide) :
    PE ((cxOf CXg X.prog X.w X.K X.mg X.base Ng qg sg g cdg X.A X.stack s H Eg).tr pn xe) (.Call (.Name a p1) [] [] p2)
      (fun σZ HZ Q => (∀ cls d H', E cls d H' → W cls d σZ H') ∧ σZ[i]? = some (some (.ref f)) ∧ HZ c' = some (CodeO c' (X.env.qual ++ "<lambda>")) ∧ tb σ HZ Q) := by
  refine ⟨fun pinsZ sZ σZ HZ Q IZ h => ?_⟩
  obtain ⟨hW, hs, hc, ht⟩ := h
  refine wpAny_Call_Name_kw (thn ((pe_var (pos := p1) (i := i) hN hv hd hcd).run pinsZ sZ σZ HZ (fun v H1 => v = .ref f ∧ H1 = HZ) IZ ⟨.ref f, hs, rfl, rfl⟩) fun u s1 ⟨v, H1, I1, r1, q1⟩ => ?_)
  obtain ⟨ev, eH⟩ := q1
  subst ev
  rw [eH] at I1
  obtain rfl : u = Value.ref f := r1
  have of1 : s1.heap.get? f = some (PySem.W.kla_obj "<lambda>" (X.env.qual ++ "<lambda>") params body scope (cloFrom X.env.cells scope.names []) pm c' ctv) := I1.base.keep f _ hf hfn hfr (fun z => nomatch (show f ∈ ([] : List Addr) from z))
  refine PySem.W.callWith_F0 ⟨_, _, _, _, of1⟩ ?_
  have un : Un (frs X.stack) [] H HZ s.heap s1.heap := I1.base
  obtain ⟨⟨oc, vs, t, hoc, hdc, hvc⟩, _, _⟩ := I1.hok c' _ hc
  have rc : codeAny (model X.prog X.w) (X.A.deeper (envOfC qg sg s.heap.objs.size g cdg)) (.call (.ref f) ⟨[], []⟩) (CR (L2.CX X.prog X.w) (envOfC qg sg s.heap.objs.size g cdg :: X.stack) X.prog X.w HZ s1 Q E) s1 := by
    refine PySem.W.kla_callFunE hr.depth of1 rfl L.co L.gen rfl ⟨c', oc, vs, t, rfl, hoc, hdc, hvc⟩ ?_
    rw [hbind]
    refine wpAny_pure (wpAny_newFunctionEnv (fun y hy => (L.own y hy).2) (fun y hy => absurd hy (by simp)) (fun h₁ hns hsb => ⟨I1.nolimit.fresh _ hsb, ?_⟩) L.kind)
    show codeAny _ _ (.expr body (lamEnv X scope s1.heap.objs.size f c')) _ _
    have kp : ∀ b o, s1.heap.get? b = some o → h₁.get? b = some o := fun b o e => hsb.extBut b o (Nat.ne_of_lt (Heap.lt_size e)) (Heap.get?_push_of_some _ e)
    have J : Inv (lamCx X (X.A.deeper (envOfC qg sg s.heap.objs.size g cdg)) (envOfC qg sg s.heap.objs.size g cdg :: X.stack) s1 HZ E scope f c') [] σ HZ { s1 with heap := h₁, toks := s1.toks + ([] : List (Str × Value)).length } :=
      lam_start2 I L I1.env0 hr.hd un hns kp
    refine PySem.W.kla_codeExpr (wpAny_mono ((hbody _ _ s1 HZ (hr.deeper _)).run [] _ _ HZ Q J ht) (fun v s' hq => ?_) fun e s' hq => hq)
    obtain ⟨w', H', J', rv, q⟩ := hq
    exact ⟨w', H', J'.os, J'.bare, J'.base, J'.hok, rv, q⟩
  refine wpAny_call (codeAny_mono rc fun r s' hq => ?_)
  cases r with
  | error e => exact tk e s' (XE.of_call I1 (fun cls d H' h => hW cls d H' h) hq)
  | ok fl =>
    cases fl with
    | ret u => exact I1.after hq
    | next => exact False.elim hq
    | brk => exact False.elim hq
    | cont => exact False.elim hq
/-- x(lambda: body, wd) -/
theorem pe_lamcall2 {T : List (Addr × Str)} {TT : (XK → Hp → VK → Prop) → Hp → VK → Prop} {x a b wd : Str} {g c P : Addr} {k jw : Nat} {pg : Arguments} {bg : List Stmt} {sg : Scope} {dV kV doc pm cdv ct oc : Value} {an od : Option Addr} {osl : Array (Option Value)} {Ng : List Str}
    {params : Arguments} {body : Expr} {scope : Scope} {t : XK → TE} {p lpos pos wpos : Pos} (hg : Gl X x) (hm : X.mg x = some (.ref g)) (hk : PySem.W.keepIn X.K (.ref g) = true)
    (lk : X.K.lookup g = some ⟨oc, od, .func (PySem.W.fnOf x x pg bg sg dV kV doc pm an cdv ct), osl⟩) (hcg : PySem.W.codeIn X.K cdv x = true) (hb : L2.Binds X.K (PySem.W.fnOf x x pg bg sg dV kV doc pm an cdv ct) [a, b] []) (Sg : FnScope Ng [a, b] sg) (hNg : Ng[0]? = some a) (hva : Vis sg a)
    (hG : GivesTo2 X Ng x sg g cdv bg a (X.env.qual ++ "<lambda>") wd TT)
    (TB : TabB X.base X.mg c P) (hcode : X.env.code = .ref c) (hmT : (P, X.env.qual ++ "<lambda>") ∈ T) (hu : ∀ p ∈ T, p.1 = P → p.2 = X.env.qual ++ "<lambda>") (hr : Room (k + 2) X.A) (L : LamS X.env.scope scope) (hdef : defaultsOf params X.env = ([], []))
    (hbind : ∀ (q : Str) (cl : List (Str × Addr)) (pm cv ctv : Value), bindArgs (PySem.W.kla_fn "<lambda>" q params body scope cl pm cv ctv) ⟨[], []⟩ = pure [])
    (hbody : ∀ (A : Around) (outer : List Env) (s : Shared) (H : Hp) (E : XK) (f c' : Addr), Room k (A.deeper (lamEnv X scope s.heap.objs.size f c')) → PE (lamCx X A outer s H E scope f c') body (t E))
    (hdb : (x == ("__debug__" : Str)) = false := by decide) (hd : (a == ("__debug__" : Str)) = false := by decide) (hcd : (a == ("__classdict__" : Str)) = false := by decide) :
    PE X (.Call (.Name x p) [.Lambda params body scope lpos, .Constant (.str wd) jw wpos] [] pos) (tLam T TT t) := by
  refine ⟨fun pins s σ H Q I h => ?_⟩
  obtain ⟨hT, h⟩ := h
  refine wpAny_Call_Name_kw (ld_glob I hg hm ?_ hdb)
  refine PySem.W.callWith_K (h₀ := X.base) I.ok.mod.kin hk ?_ (by rfl) (by rfl)
  show wpAny _ _ (spliced ((false, eval (.Lambda params body scope lpos) X.env) :: backTo pos (starEach [.Constant (.str wd) jw wpos] X.env))) _ _ s
  refine Calls.spliced_cons (lam_make2 I TB hcode hmT hu hT hdef (L.has I.ok) fun f c' pm' ctv H1 s' I1 eN T1 hf hfn hfr hco => ?_)
  show wpAny _ _ (spliced ((false, eval (.Constant (.str wd) jw wpos) X.env) :: backTo pos (starEach [] X.env))) _ _ s'
  refine Calls.spliced_cons (Calls.Constant_str (Calls.spliced_nil ?_))
  have I2 : Inv X pins σ H1 { s' with toks := s'.toks + 1 } := I1.tok _
  refine ⟨I2.kIn, ?_⟩
  have rc : codeAny (model X.prog X.w) X.A (.call (.ref g) ⟨[.ref f, .str wd s'.toks], []⟩) (CR C8.CX0 X.stack X.prog X.w H1 { s' with toks := s'.toks + 1 } Q C8.E0) { s' with toks := s'.toks + 1 } := by
    refine run_ofS (N := Ng) (ps := [a, b]) (us := [.ref f, .str wd s'.toks]) (vs := [.ref f, .str wd]) lk hcg Sg hr I2.env0 (hb { s' with toks := s'.toks + 1 } [.ref f, .str wd s'.toks] I2.kIn rfl) (.cons rfl (.cons ⟨_, rfl⟩ .nil)) rfl fun hr' => ?_
    obtain ⟨t', ht', hq'⟩ := hG f c' { s' with toks := s'.toks + 1 } H1 Q (fun E H' Q' => t E σ H' Q') (fun W pn xe E p1 p2 tk => pe_act2 (i := 0) I2 L hf hfn hfr (hbind _ _ _ _ _) tk hr' (fun A outer s H hr2 => hbody A outer s H E f c' hr2) hNg hva hd hcd) hco (h H1 eN T1)
    exact ⟨t', ht'.nox, hq'⟩
  refine wpAny_call (codeAny_mono rc fun r s2 hq => ?_)
  cases r with
  | error e => exact (show False from hq).elim
  | ok fl =>
    cases fl with
    | ret u => exact I2.after hq
    | next => exact False.elim hq
    | brk => exact False.elim hq
    | cont => exact False.elim hq
end
end Dw
end
section
set_option Elab.async false
set_option linter.all false
set_option maxRecDepth 100000
set_option maxHeartbeats 4000000
/-! Tg, part Ze: Dw: dict displays, pairs of texts compared, lambdas handed over. -/
namespace Dw
open PySem PySem.Spec PyProof.Rows L2 Tg LamX
section
variable {C : DC}
/-- {k: e} -/
def DDisp1 (k : Key) (T : TD) : TN := fun ρ K => T ρ fun d ρ1 => K (.m [(kD k, d)]) ρ1
theorem disp_go {k : Key} {t : TE} {T : TD} [r : ∀ C', Ref C' t T] {σ : L2.St} {H : Hp} {Q : VK} {ρ : DSt} {K : DV → DSt → Prop} (I : DI C ρ σ H) (h : DDisp1 k T ρ K) (kk : ∀ dv ρ' p H', K dv ρ' → Kp H H' → DI C ρ' σ H' → New C ρ' σ H' dv p → Q (.ref p) H') : tDisp [(tC (kV k), t)] σ H Q := fun p np => by
  obtain ⟨I1, k1, N1⟩ := I.newM ⟨[], np, rfl, RpD.nil⟩
  refine (New.under (t := t) (T := T) I1 N1 h fun d ρ2 w H2 q2 k2 I2 N2 r2 => ?_ : t σ (upd H p (.dK [])) _)
  obtain ⟨a, ks, e, h1, h2, n0, ns, nn⟩ := N2.dv
  cases e
  simp only [RpD] at h2
  subst h2
  have kp : Kp H2 (upd H2 p (.dK [(k, w)])) := kp_but h1 True.intro But.upd
  refine ⟨h1, [(k, w)], rfl, by show 1 ≤ 15; decide, ?_⟩
  have em : mergeK [] [(k, w)] = [(k, w)] := rfl
  rw [em]
  exact kk _ _ _ _ q2 ((k1.trans k2).trans kp) (I2.but h1 True.intro But.upd n0 ns nn N2.ap) ⟨rfl, ⟨p, _, rfl, upd_same, RpD.cons (r2.keep kp) RpD.nil, n0, ns, nn⟩, N2.ap⟩
instance iDispS {x : Str} {t : TE} {T : TD} [r : ∀ C', Ref C' t T] : RefN C (tDisp [(tC (.str x), t)]) (DDisp1 (.inr x) T) := ⟨fun I h k => disp_go (k := .inr x) I h k⟩
instance iDispI {i : Int} {t : TE} {T : TD} [r : ∀ C', Ref C' t T] : RefN C (tDisp [(tC (.int i), t)]) (DDisp1 (.inl i) T) := ⟨fun I h k => disp_go (k := .inl i) I h k⟩
/-- {None: 1} -/
def DNone1 : TD := fun ρ K => K (.dict [(.none, .int 1)]) ρ
instance iNone1 : Ref C (tNone1 [(tC .non, tC (.int 1))]) DNone1 := ⟨fun {σ H Q ρ K} I h k p np => ⟨upd_same, rfl, fun o no sm => by
  have s : Same H (upd (upd H p (.dK [])) p (.frz o (NDh p o))) := fun b u e => by
    have : b ≠ p := fun z => by rw [z, np] at e; cases e
    rw [upd_ne this, upd_ne this]
    exact e
  exact k _ _ _ _ h (Kp.same s) (I.same s) (by
    simp only [Rp]
    exact .inr ⟨trivial, p, o, rfl, upd_same, no, sm⟩)⟩⟩
end
/-! ### (text, text) != (text, text) -/
def RNeT : D2 := fun d e K => ∃ a b a' b', d = .tuple [.str a, .str b] ∧ e = .tuple [.str a', .str b'] ∧ (PyData.strOk a = true ∧ PyData.strOk b = true ∧ PyData.strOk a' = true ∧ PyData.strOk b' = true) ∧ K (.bool (!PyData.eqv d e))
section
variable {X : Cx}
theorem tup_dp {K : PySem.W.Frag} {H : Hp} {a b : Str} {v : V} (r : Rp H (.tuple [.str a, .str b]) v) : Dp K H v (.tuple [.str a, .str b]) := by
  obtain ⟨p, vs, rfl, ha, rl⟩ := rp_tup r
  obtain ⟨x, y, rfl, r1, r2⟩ := rpL2 rl
  cases rp_str r1
  cases rp_str r2
  exact .tup (SqT.of ha) (.cons (.str _) (.cons (.str _) .nil))
theorem dNeT (hu : X.A.units + 64 < cLine) : OpR X (compareOp .NotEq) (rD RNeT) := OpR.of (op_neD hu) fun x y H Q q => by
  obtain ⟨d, e, K, r1, r2, ⟨a, b, a', b', rfl, rfl, ⟨o1, o2, o3, o4⟩, q⟩, k⟩ := q
  have sh : ∀ a b : Str, PyData.strOk a = true → PyData.strOk b = true → SeqAt.shaped (.tuple [.str a, .str b]) = true := fun a b h1 h2 => by
    simp [SeqAt.shaped, PyData.canLay0, PyData.canLayAll0, PyData.depth, PyData.depthAll, h1, h2]
  exact ⟨_, _, tup_dp r1, tup_dp r2, sh _ _ o1 o2, sh _ _ o3 o4, k _ _ _ q (fun _ _ e => e) Rp.bl⟩
theorem eqv_self (a b : Str) : PyData.eqv (.tuple [.str a, .str b]) (.tuple [.str a, .str b]) = true := by
  simp [PyData.eqv, PyData.eqvAll]
end
/-! ### tables -/
theorem tabs_but {T : List (Addr × Str)} {H H' : Hp} {p : Addr} {u : HO} (t : Tabs T H) (hp : H p = some u) (ld : LD u) (s : But p H H') : Tabs T H' := by
  intro q hq
  obtain ⟨ps, h1, h2, h3⟩ := t q hq
  have np : ∀ {b : Addr} {o : HO}, H b = some o → ¬ LD o → b ≠ p := fun e n z => by
    rw [z, hp] at e
    cases e
    exact n ld
  refine ⟨ps, s _ _ (np h1 (fun z => z)) h1, h2, fun pos cv hc => ?_⟩
  obtain ⟨c', e1, e2⟩ := h3 pos cv hc
  exact ⟨c', e1, s _ _ (np e2 (fun z => by unfold CodeO at z; exact z)) e2⟩
def noT (H : Hp) : Hp := fun b => match H b with
  | some (.tbl _) => none
  | o => o
theorem noT_some {H : Hp} {b : Addr} {o : HO} (h : noT H b = some o) : H b = some o ∧ ∀ ps, o ≠ .tbl ps := by
  unfold noT at h
  split at h
  · cases h
  · rename_i n
    exact ⟨h, fun ps z => n ps (by rw [h, z])⟩
/-- the frame of a def that draws from a pot and makes lambdas -/
def potT (H : Hp) (p : Addr) (T : List (Addr × Str)) : DC := ⟨noT H, fun b => b = p, fun _ => False, Tabs T, fun H1 H2 s j => j.ext s, fun H1 H2 q u hq ld _ but j => tabs_but j hq ld but⟩
theorem DI.extN {H0 : Hp} {p : Addr} {T : List (Addr × Str)} {ρ : DSt} {σ : L2.St} {H H' : Hp} (I : DI (potT H0 p T) ρ σ H) (e : ExtN H H') (t : Tabs T H') : DI (potT H0 p T) ρ σ H' := by
  refine ⟨I.len, fun i dv h => ?_, I.sep, fun b o n h => ?_, fun b hb => ?_, fun b hb => hb.elim, t⟩
  · obtain ⟨w, h1, h2⟩ := I.at_ i dv h
    refine ⟨w, h1, ?_⟩
    cases dv with
    | d x => exact Rp.extN (show Rp H x w from h2) e
    | l xs =>
      obtain ⟨a, vs, e1, h3, h4, h5⟩ := h2
      exact ⟨a, vs, e1, e _ _ h3 (fun _ z => nomatch z), RpL.keep (ExtN.kp e) _ _ h4, h5⟩
    | m xs =>
      obtain ⟨a, vs, e1, h3, h4, h5⟩ := h2
      exact ⟨a, vs, e1, e _ _ h3 (fun _ z => nomatch z), RpD.keep (ExtN.kp e) _ _ h4, h5⟩
    | pot p c =>
      obtain ⟨e1, h3, h4⟩ := h2
      obtain ⟨x, y, z, h5, r⟩ := h3.ex
      exact ⟨e1, ⟨x, y, z, e _ _ h5 (fun _ z => nomatch z), r⟩, h4⟩
    | v x => exact h2
  · obtain ⟨h1, h2⟩ := noT_some h
    rcases I.fr b o n h with h3 | ⟨ps, ps', h3, h4⟩
    · exact .inl (e _ _ h3 h2)
    · exact absurd h3 (h2 ps)
  · obtain ⟨xs, h⟩ := I.sx b hb
    exact ⟨xs, e _ _ h (fun _ z => nomatch z)⟩
/-! ### a lambda handed over: what is caught -/
def TCaught (C : Addr) (wd : Str) : (XK → Hp → VK → Prop) → Hp → VK → Prop := fun tl H Q => ∀ H1, Same H H1 → ∃ (Qb : VK) (Eb : XK), tl Eb H1 Qb ∧
  (∀ v H', Qb v H' → ∀ p, H' p = none → Q (.ref p) (upd H' p (.tup [.str "told", v]))) ∧
  (∀ cls d H', Eb cls d H' → ∃ dd v, cls = .ref C ∧ d = some dd ∧ H' dd = some (.xd [("value", v)]) ∧ ∀ H'' p, Same H' H'' → H'' p = some (.tup [.str wd, v]) → Q (.ref p) H'')
def DLam (F : DFX) (Cc : Addr) (wd : Str) (TA : TDA) : TD := fun ρ K => TA ρ fun ds ρ1 => F ds (fun d => K (.tuple [.str (Str.ofString "told"), d]) ρ1) (fun Ca d => Ca = Cc ∧ K (.tuple [.str wd, d]) ρ1)
instance iLam {H0 : Hp} {p : Addr} {T : List (Addr × Str)} {F : DFX} {Cc : Addr} {wd : Str} {ta : TA} {TA : TDA} [ra : RefA (potT H0 p T) ta TA] : Ref (potT H0 p T) (tLam T (TCaught Cc wd) fun E => tCall (spX F) [] E ta) (DLam F Cc wd TA) := ⟨fun {σ H Q ρ K} I h k => ⟨I.j, fun H1 eN T1 H2 s2 => by
  have I2 := (I.extN eN T1).same s2
  have k2 : Kp H H2 := (ExtN.kp eN).trans (Kp.same s2)
  refine ⟨fun v H' => ∃ d ρ', K (.tuple [.str (Str.ofString "told"), d]) ρ' ∧ Kp H H' ∧ DI (potT H0 p T) ρ' σ H' ∧ Rp H' d v,
    fun cls dx H' => ∃ dd v d ρ', cls = .ref Cc ∧ dx = some dd ∧ H' dd = some (.xd [("value", v)]) ∧ K (.tuple [.str wd, d]) ρ' ∧ Kp H H' ∧ DI (potT H0 p T) ρ' σ H' ∧ Rp H' d v, ?_, ?_, ?_⟩
  · exact ra.go I2 h fun ds ρ1 ws H3 q1 k1 I3 r1 => ⟨ds, _, _, by rw [List.append_nil]; exact r1, q1, fun d w H4 q2 s4 r4 => ⟨d, ρ1, q2, (k2.trans k1).trans (Kp.same s4), I3.same s4, r4⟩,
      fun Ca d dx w H4 q2 s4 h4 r4 => ⟨dx, w, d, ρ1, by rw [q2.1], rfl, h4, q2.2, (k2.trans k1).trans (Kp.same s4), I3.same s4, r4⟩⟩
  · rintro v H' ⟨d, ρ', q, k', I', r⟩ a na
    exact k _ _ _ _ q (k'.trans (Kp.new na)) (I'.same (same_new na)) (Rp.tup upd_same (RpL.cons Rp.str (RpL.cons (r.same (same_new na)) RpL.nil)))
  · rintro cls dx H' ⟨dd, v, d, ρ', rfl, rfl, hd, q, k', I', r⟩
    refine ⟨dd, v, rfl, rfl, hd, fun H'' a s ha => ?_⟩
    exact k _ _ _ _ q (k'.trans (Kp.same s)) (I'.same s) (Rp.tup ha (RpL.cons Rp.str (RpL.cons (r.same s) RpL.nil)))⟩⟩
/-- a def whose one parameter is the pot, with tables -/
theorem okR {H0 : Hp} {p : Addr} {Ts : List (Addr × Str)} {N : List Str} {c : Int} {t : TS} {T : TDS} {Q : VK} {Kk : PyData → Int → Prop} (rs : RefS (potT H0 p Ts) t T) (hN : 1 ≤ N.length) (hp : PotAt H0 p c) (tb : Tabs Ts H0)
    (q : T { nx := fun ρ => False, rt := fun d ρ => ∃ c', ρ[0]? = some (some (.pot p c')) ∧ Kk d c' } (startP N.length p c []))
    (k : ∀ d c' w H', Kk d c' → (∀ b o, b ≠ p → (∀ ps, o ≠ .tbl ps) → H0 b = some o → H' b = some o) → PotAt H' p c' → Tabs Ts H' → Rp H' d w → Q w H') :
    t { nx := fun _ H' => Q .non H', rt := Q } (L2.start N [.ref p]) H0 := by
  have I0 : DI (potT H0 p Ts) (startP N.length p c []) (L2.start N (.ref p :: [])) H0 := DI.startP hN RpL.nil hp rfl (fun z => z) (fun b o _ e => .inl (noT_some e).1) (fun b hb => by rw [show b = p from hb]; exact hp.ld) (fun b hb => hb.elim) tb
  refine rs.go I0 q (fun _ _ _ z => z.elim) (fun d ρ' w' σ' H' ⟨c', e, q'⟩ _ I r' => ?_) (fun _ _ _ z => z.elim) fun _ _ _ z => z.elim
  obtain ⟨w, hw, rfl, hp', _⟩ := I.at_ 0 _ e
  refine k _ _ _ _ q' (fun b o nb nt eb => ?_) hp' I.j r'
  have e0 : noT H0 b = some o := by
    unfold noT
    rw [eb]
    cases o with
    | tbl ps => exact absurd rfl (nt ps)
    | _ => rfl
  rcases I.fr b o nb e0 with h | ⟨ps, _, rfl, _⟩
  · exact h
  · exact absurd rfl (nt ps)
end Dw
end
section
set_option Elab.async false
open PySem PySem.W PyProof.Rows
set_option maxRecDepth 100000
set_option maxHeartbeats 0
open_top head for PySem.Challenge.rw_tagless_k88_texts_of_any_value
end
section
set_option Elab.async false
set_option linter.all false
set_option maxRecDepth 100000
set_option maxHeartbeats 4000000
namespace K88
open PySem PySem.Spec PyProof.Rows L2 Tg Dw
local macro_rules | `(tactic| walk_at "c") => `(tactic| first | assumption | trivial | omega | (constructor <;> omega) | decide | exact len_ok (Nat.le_of_ble_eq_true rfl))
local macro_rules | `(tactic| walk_at "sq") => `(tactic| first | exact SqL.of (by assumption) | exact SqL.of upd_same | assumption | exact SqT.of (by assumption) | exact SqT.of upd_same | exact .inl (SqL.of (by assumption)) | exact .inr (SqT.of (by assumption)))
local macro_rules | `(tactic| walk_at "r1") => `(tactic| first
  | refine ⟨_, rfl, ?_⟩
  | refine ⟨_, _, rfl, rfl, ?_⟩
  | refine .inl ⟨_, rfl, ?_⟩
  | refine .inr ⟨_, rfl, ?_⟩
  | (apply Exists.intro; apply Exists.intro; apply Exists.intro; apply Exists.intro; refine And.intro rfl (And.intro rfl (And.intro ?sq ?_)); (case sq => walk_at "sq"); refine And.intro rfl ?_)
  | (apply Exists.intro; apply Exists.intro; apply Exists.intro; apply Exists.intro; refine And.intro rfl (And.intro rfl (And.intro ?hp ?_)); (case hp => first | assumption | exact upd_same); refine And.intro rfl ?_)
  | (refine And.intro ?c ?_; (case c => walk_at "c")))
local macro_rules | `(tactic| walk_at "r") => `(tactic| repeat walk_at "r1")
def top (i : Nat) : Stmt := PySem.Challenge.pw_tagless_k88_texts_of_any_value.main.body.getD i (.Pass ⟨0, 0, 0, 0⟩)
abbrev s_is_name : Stmt := top 6
abbrev s_is_document : Stmt := top 7
abbrev s_check_document : Stmt := top 8
abbrev s_string_text : Stmt := top 20
abbrev s_document_text : Stmt := top 21
abbrev s_show_document : Stmt := top 22
abbrev s_digits_behind : Stmt := top 23
abbrev s_number_at : Stmt := top 24
abbrev s_string_at : Stmt := top 25
abbrev s_list_at : Stmt := top 26
abbrev s_field_at : Stmt := top 27
abbrev s_record_at : Stmt := top 28
abbrev s_part_at : Stmt := top 29
abbrev s_document_in : Stmt := top 30
abbrev s_read_document : Stmt := top 31
abbrev s__law_pot : Stmt := top 33
abbrev s__law_take : Stmt := top 34
abbrev s__law_of : Stmt := top 35
abbrev s__law_unlike : Stmt := top 36
abbrev s__law_flat : Stmt := top 37
abbrev s__law_any : Stmt := top 38
abbrev s__law_writ : Stmt := top 39
abbrev s__law_items : Stmt := top 40
abbrev s__law_string : Stmt := top 41
abbrev s__law_part : Stmt := top 42
abbrev s__law_bent_text : Stmt := top 43
abbrev s__law_text_drawn : Stmt := top 44
abbrev s__law_caught : Stmt := top 45
abbrev s__law_right : Stmt := top 46
abbrev s_law : Stmt := top 47
theorem sc_is_name : FnScope ["value", "letter"] ["value"] (defScope s_is_name) := ⟨rfl, rfl, rfl, by decide +kernel, rfl, by decide +kernel, by decide +kernel⟩
theorem sc_is_document : FnScope ["value", "part", "field"] ["value"] (defScope s_is_document) := ⟨rfl, rfl, rfl, by decide +kernel, rfl, by decide +kernel, by decide +kernel⟩
theorem sc_check_document : FnScope ["value"] ["value"] (defScope s_check_document) := ⟨rfl, rfl, rfl, by decide +kernel, rfl, by decide +kernel, by decide +kernel⟩
theorem sc_string_text : FnScope ["value"] ["value"] (defScope s_string_text) := ⟨rfl, rfl, rfl, by decide +kernel, rfl, by decide +kernel, by decide +kernel⟩
theorem sc_document_text : FnScope ["document", "rows", "field", "part"] ["document"] (defScope s_document_text) := ⟨rfl, rfl, rfl, by decide +kernel, rfl, by decide +kernel, by decide +kernel⟩
theorem sc_show_document : FnScope ["document"] ["document"] (defScope s_show_document) := ⟨rfl, rfl, rfl, by decide +kernel, rfl, by decide +kernel, by decide +kernel⟩
theorem sc_digits_behind : FnScope ["text", "at"] ["text", "at"] (defScope s_digits_behind) := ⟨rfl, rfl, rfl, by decide +kernel, rfl, by decide +kernel, by decide +kernel⟩
theorem sc_number_at : FnScope ["text", "at", "first", "end"] ["text", "at"] (defScope s_number_at) := ⟨rfl, rfl, rfl, by decide +kernel, rfl, by decide +kernel, by decide +kernel⟩
theorem sc_string_at : FnScope ["text", "at", "found"] ["text", "at"] (defScope s_string_at) := ⟨rfl, rfl, rfl, by decide +kernel, rfl, by decide +kernel, by decide +kernel⟩
theorem sc_list_at : FnScope ["text", "at", "found", "sign", "part"] ["text", "at"] (defScope s_list_at) := ⟨rfl, rfl, rfl, by decide +kernel, rfl, by decide +kernel, by decide +kernel⟩
theorem sc_field_at : FnScope ["text", "at", "end"] ["text", "at"] (defScope s_field_at) := ⟨rfl, rfl, rfl, by decide +kernel, rfl, by decide +kernel, by decide +kernel⟩
theorem sc_record_at : FnScope ["text", "at", "found", "last", "sign", "field", "part"] ["text", "at"] (defScope s_record_at) := ⟨rfl, rfl, rfl, by decide +kernel, rfl, by decide +kernel, by decide +kernel⟩
theorem sc_part_at : FnScope ["text", "at", "sign"] ["text", "at"] (defScope s_part_at) := ⟨rfl, rfl, rfl, by decide +kernel, rfl, by decide +kernel, by decide +kernel⟩
theorem sc_document_in : FnScope ["text", "found"] ["text"] (defScope s_document_in) := ⟨rfl, rfl, rfl, by decide +kernel, rfl, by decide +kernel, by decide +kernel⟩
theorem sc_read_document : FnScope ["text", "found"] ["text"] (defScope s_read_document) := ⟨rfl, rfl, rfl, by decide +kernel, rfl, by decide +kernel, by decide +kernel⟩
theorem sc__law_pot : FnScope ["_law_script", "_law_k", "_law_cell", "_law_own"] ["_law_script", "_law_k"] (defScope s__law_pot) := ⟨rfl, rfl, rfl, by decide +kernel, rfl, by decide +kernel, by decide +kernel⟩
theorem sc__law_take : FnScope ["_law_pot_here", "_law_upto", "_law_digit", "_law_prime", "_law_stirred"] ["_law_pot_here", "_law_upto"] (defScope s__law_take) := ⟨rfl, rfl, rfl, by decide +kernel, rfl, by decide +kernel, by decide +kernel⟩
theorem sc__law_of : FnScope ["_law_pot_here", "_law_some"] ["_law_pot_here", "_law_some"] (defScope s__law_of) := ⟨rfl, rfl, rfl, by decide +kernel, rfl, by decide +kernel, by decide +kernel⟩
theorem sc__law_unlike : FnScope ["_law_pot_here", "_law_some", "_law_many", "_law_left", "_law_found", "_law_turn"] ["_law_pot_here", "_law_some", "_law_many"] (defScope s__law_unlike) := ⟨rfl, rfl, rfl, by decide +kernel, rfl, by decide +kernel, by decide +kernel⟩
theorem sc__law_flat : FnScope ["_law_pot_here"] ["_law_pot_here"] (defScope s__law_flat) := ⟨rfl, rfl, rfl, by decide +kernel, rfl, by decide +kernel, by decide +kernel⟩
theorem sc__law_any : FnScope ["_law_pot_here", "_law_deep", "_law_pick", "_law_fields", "_law_turn", "_law_field"] ["_law_pot_here", "_law_deep"] (defScope s__law_any) := ⟨rfl, rfl, rfl, by decide +kernel, rfl, by decide +kernel, by decide +kernel⟩
theorem sc__law_writ : FnScope ["_law_document", "_law_field", "_law_sign", "_law_part_here"] ["_law_document"] (defScope s__law_writ) := ⟨rfl, rfl, rfl, by decide +kernel, rfl, by decide +kernel, by decide +kernel⟩
theorem sc__law_items : FnScope ["_law_text", "_law_at", "_law_has_fields", "_law_end", "_law_rows", "_law_field", "_law_stop", "_law_told"] ["_law_text", "_law_at", "_law_has_fields"] (defScope s__law_items) := ⟨rfl, rfl, rfl, by decide +kernel, rfl, by decide +kernel, by decide +kernel⟩
theorem sc__law_string : FnScope ["_law_text", "_law_at", "_law_found", "_law_step"] ["_law_text", "_law_at"] (defScope s__law_string) := ⟨rfl, rfl, rfl, by decide +kernel, rfl, by decide +kernel, by decide +kernel⟩
theorem sc__law_part : FnScope ["_law_text", "_law_at", "_law_sign", "_law_told", "_law_word", "_law_document", "_law_stop", "_law_figures", "_law_row"] ["_law_text", "_law_at"] (defScope s__law_part) := ⟨rfl, rfl, rfl, by decide +kernel, rfl, by decide +kernel, by decide +kernel⟩
theorem sc__law_bent_text : FnScope ["_law_pot_here", "_law_text", "_law_at", "_law_pick", "_law_some", "_law_sign"] ["_law_pot_here", "_law_text"] (defScope s__law_bent_text) := ⟨rfl, rfl, rfl, by decide +kernel, rfl, by decide +kernel, by decide +kernel⟩
theorem sc__law_text_drawn : FnScope ["_law_pot_here", "_law_some", "_law_pick", "_law_text", "_law_turn"] ["_law_pot_here"] (defScope s__law_text_drawn) := ⟨rfl, rfl, rfl, by decide +kernel, rfl, by decide +kernel, by decide +kernel⟩
theorem sc__law_caught : FnScope ["_law_call", "_law_word", "_law_caught_here", "_law_told", "error", "_law_is_due", "_law_is_other"] ["_law_call", "_law_word"] (defScope s__law_caught) := ⟨rfl, rfl, rfl, by decide +kernel, rfl, by decide +kernel, by decide +kernel⟩
theorem sc__law_right : FnScope ["_law_pot_here", "_law_text", "_law_told", "_law_due", "_law_odd", "_law_some", "_law_none"] ["_law_pot_here"] (defScope s__law_right) := ⟨rfl, rfl, rfl, by decide +kernel, rfl, by decide +kernel, by decide +kernel⟩
theorem sc_law : FnScope ["_law_script", "_law_k", "_law_pot_here", "_law_turn"] ["_law_script"] (defScope s_law) := ⟨rfl, rfl, rfl, by decide +kernel, rfl, by decide +kernel, by decide +kernel⟩
structure Tx (P : Program) (K : PySem.W.Frag) (mg : Str → Option Value) where
  D : Addr
  fI : Addr
  fdI : FuncData
  ini : IniT P K mg fI D fdI
  b_ini : Binds K fdI ["self", "value"] []
  C_TaglessError : Addr
  e_TaglessError : ErrC K fI D C_TaglessError
  m_TaglessError : mg "TaglessError" = some (.ref C_TaglessError)
  C_NoDocument : Addr
  e_NoDocument : ErrC K fI D C_NoDocument
  m_NoDocument : mg "NoDocument" = some (.ref C_NoDocument)
  C_BadText : Addr
  e_BadText : ErrC K fI D C_BadText
  m_BadText : mg "BadText" = some (.ref C_BadText)
  t_MOST_LETTERS : Tok
  m_MOST_LETTERS : mg "MOST_LETTERS" = some (.int 8 t_MOST_LETTERS)
  t_QUOTE : Tok
  m_QUOTE : mg "QUOTE" = some (.str "\"" t_QUOTE)
  t_STROKE : Tok
  m_STROKE : mg "STROKE" = some (.str "\\" t_STROKE)
  t_PARTED : Tok
  m_PARTED : mg "PARTED" = some (.str ", " t_PARTED)
  t_NAMED : Tok
  m_NAMED : mg "NAMED" = some (.str ": " t_NAMED)
  t_YES : Tok
  m_YES : mg "YES" = some (.str "yes" t_YES)
  t_NO : Tok
  m_NO : mg "NO" = some (.str "no" t_NO)
  t_MINUS : Tok
  m_MINUS : mg "MINUS" = some (.str "-" t_MINUS)
  t_DIGITS : Tok
  m_DIGITS : mg "DIGITS" = some (.str "0123456789" t_DIGITS)
  t_MOST_DIGITS : Tok
  m_MOST_DIGITS : mg "MOST_DIGITS" = some (.int 4000 t_MOST_DIGITS)
  t_PAIR : Tok
  m_PAIR : mg "PAIR" = some (.int 2 t_PAIR)
  n_ValueError : mg "ValueError" = none
  n_abs : mg "abs" = none
  n_all : mg "all" = none
  n_bool : mg "bool" = none
  n_dict : mg "dict" = none
  n_int : mg "int" = none
  n_isinstance : mg "isinstance" = none
  n_len : mg "len" = none
  n_list : mg "list" = none
  n_max : mg "max" = none
  n_min : mg "min" = none
  n_range : mg "range" = none
  n_repr : mg "repr" = none
  n_sorted : mg "sorted" = none
  n_str : mg "str" = none
  a_is_name : Addr
  fd_is_name : FuncData
  F_is_name : Fun K "is_name" "is_name" s_is_name a_is_name fd_is_name
  b_is_name : Binds K fd_is_name ["value"] []
  m_is_name : mg "is_name" = some (.ref a_is_name)
  a_is_document : Addr
  fd_is_document : FuncData
  F_is_document : Fun K "is_document" "is_document" s_is_document a_is_document fd_is_document
  b_is_document : Binds K fd_is_document ["value"] []
  m_is_document : mg "is_document" = some (.ref a_is_document)
  a_check_document : Addr
  fd_check_document : FuncData
  F_check_document : Fun K "check_document" "check_document" s_check_document a_check_document fd_check_document
  b_check_document : Binds K fd_check_document ["value"] []
  m_check_document : mg "check_document" = some (.ref a_check_document)
  a_string_text : Addr
  fd_string_text : FuncData
  F_string_text : Fun K "string_text" "string_text" s_string_text a_string_text fd_string_text
  b_string_text : Binds K fd_string_text ["value"] []
  m_string_text : mg "string_text" = some (.ref a_string_text)
  a_document_text : Addr
  fd_document_text : FuncData
  F_document_text : Fun K "document_text" "document_text" s_document_text a_document_text fd_document_text
  b_document_text : Binds K fd_document_text ["document"] []
  m_document_text : mg "document_text" = some (.ref a_document_text)
  a_show_document : Addr
  fd_show_document : FuncData
  F_show_document : Fun K "show_document" "show_document" s_show_document a_show_document fd_show_document
  b_show_document : Binds K fd_show_document ["document"] []
  m_show_document : mg "show_document" = some (.ref a_show_document)
  a_digits_behind : Addr
  fd_digits_behind : FuncData
  F_digits_behind : Fun K "digits_behind" "digits_behind" s_digits_behind a_digits_behind fd_digits_behind
  b_digits_behind : Binds K fd_digits_behind ["text", "at"] []
  m_digits_behind : mg "digits_behind" = some (.ref a_digits_behind)
  a_number_at : Addr
  fd_number_at : FuncData
  F_number_at : Fun K "number_at" "number_at" s_number_at a_number_at fd_number_at
  b_number_at : Binds K fd_number_at ["text", "at"] []
  m_number_at : mg "number_at" = some (.ref a_number_at)
  a_string_at : Addr
  fd_string_at : FuncData
  F_string_at : Fun K "string_at" "string_at" s_string_at a_string_at fd_string_at
  b_string_at : Binds K fd_string_at ["text", "at"] []
  m_string_at : mg "string_at" = some (.ref a_string_at)
  a_list_at : Addr
  fd_list_at : FuncData
  F_list_at : Fun K "list_at" "list_at" s_list_at a_list_at fd_list_at
  b_list_at : Binds K fd_list_at ["text", "at"] []
  m_list_at : mg "list_at" = some (.ref a_list_at)
  a_field_at : Addr
  fd_field_at : FuncData
  F_field_at : Fun K "field_at" "field_at" s_field_at a_field_at fd_field_at
  b_field_at : Binds K fd_field_at ["text", "at"] []
  m_field_at : mg "field_at" = some (.ref a_field_at)
  a_record_at : Addr
  fd_record_at : FuncData
  F_record_at : Fun K "record_at" "record_at" s_record_at a_record_at fd_record_at
  b_record_at : Binds K fd_record_at ["text", "at"] []
  m_record_at : mg "record_at" = some (.ref a_record_at)
  a_part_at : Addr
  fd_part_at : FuncData
  F_part_at : Fun K "part_at" "part_at" s_part_at a_part_at fd_part_at
  b_part_at : Binds K fd_part_at ["text", "at"] []
  m_part_at : mg "part_at" = some (.ref a_part_at)
  a_document_in : Addr
  fd_document_in : FuncData
  F_document_in : Fun K "document_in" "document_in" s_document_in a_document_in fd_document_in
  b_document_in : Binds K fd_document_in ["text"] []
  m_document_in : mg "document_in" = some (.ref a_document_in)
  a_read_document : Addr
  fd_read_document : FuncData
  F_read_document : Fun K "read_document" "read_document" s_read_document a_read_document fd_read_document
  b_read_document : Binds K fd_read_document ["text"] []
  m_read_document : mg "read_document" = some (.ref a_read_document)
  a__law_pot : Addr
  fd__law_pot : FuncData
  F__law_pot : Fun K "_law_pot" "_law_pot" s__law_pot a__law_pot fd__law_pot
  b__law_pot : Binds K fd__law_pot ["_law_script", "_law_k"] []
  m__law_pot : mg "_law_pot" = some (.ref a__law_pot)
  a__law_take : Addr
  fd__law_take : FuncData
  F__law_take : Fun K "_law_take" "_law_take" s__law_take a__law_take fd__law_take
  b__law_take : Binds K fd__law_take ["_law_pot_here", "_law_upto"] []
  m__law_take : mg "_law_take" = some (.ref a__law_take)
  a__law_of : Addr
  fd__law_of : FuncData
  F__law_of : Fun K "_law_of" "_law_of" s__law_of a__law_of fd__law_of
  b__law_of : Binds K fd__law_of ["_law_pot_here", "_law_some"] []
  m__law_of : mg "_law_of" = some (.ref a__law_of)
  a__law_unlike : Addr
  fd__law_unlike : FuncData
  F__law_unlike : Fun K "_law_unlike" "_law_unlike" s__law_unlike a__law_unlike fd__law_unlike
  b__law_unlike : Binds K fd__law_unlike ["_law_pot_here", "_law_some", "_law_many"] []
  m__law_unlike : mg "_law_unlike" = some (.ref a__law_unlike)
  a__law_flat : Addr
  fd__law_flat : FuncData
  F__law_flat : Fun K "_law_flat" "_law_flat" s__law_flat a__law_flat fd__law_flat
  b__law_flat : Binds K fd__law_flat ["_law_pot_here"] []
  m__law_flat : mg "_law_flat" = some (.ref a__law_flat)
  a__law_any : Addr
  fd__law_any : FuncData
  F__law_any : Fun K "_law_any" "_law_any" s__law_any a__law_any fd__law_any
  b__law_any : Binds K fd__law_any ["_law_pot_here", "_law_deep"] []
  m__law_any : mg "_law_any" = some (.ref a__law_any)
  a__law_writ : Addr
  fd__law_writ : FuncData
  F__law_writ : Fun K "_law_writ" "_law_writ" s__law_writ a__law_writ fd__law_writ
  b__law_writ : Binds K fd__law_writ ["_law_document"] []
  m__law_writ : mg "_law_writ" = some (.ref a__law_writ)
  a__law_items : Addr
  fd__law_items : FuncData
  F__law_items : Fun K "_law_items" "_law_items" s__law_items a__law_items fd__law_items
  b__law_items : Binds K fd__law_items ["_law_text", "_law_at", "_law_has_fields"] []
  m__law_items : mg "_law_items" = some (.ref a__law_items)
  a__law_string : Addr
  fd__law_string : FuncData
  F__law_string : Fun K "_law_string" "_law_string" s__law_string a__law_string fd__law_string
  b__law_string : Binds K fd__law_string ["_law_text", "_law_at"] []
  m__law_string : mg "_law_string" = some (.ref a__law_string)
  a__law_part : Addr
  fd__law_part : FuncData
  F__law_part : Fun K "_law_part" "_law_part" s__law_part a__law_part fd__law_part
  b__law_part : Binds K fd__law_part ["_law_text", "_law_at"] []
  m__law_part : mg "_law_part" = some (.ref a__law_part)
  a__law_bent_text : Addr
  fd__law_bent_text : FuncData
  F__law_bent_text : Fun K "_law_bent_text" "_law_bent_text" s__law_bent_text a__law_bent_text fd__law_bent_text
  b__law_bent_text : Binds K fd__law_bent_text ["_law_pot_here", "_law_text"] []
  m__law_bent_text : mg "_law_bent_text" = some (.ref a__law_bent_text)
  a__law_text_drawn : Addr
  fd__law_text_drawn : FuncData
  F__law_text_drawn : Fun K "_law_text_drawn" "_law_text_drawn" s__law_text_drawn a__law_text_drawn fd__law_text_drawn
  b__law_text_drawn : Binds K fd__law_text_drawn ["_law_pot_here"] []
  m__law_text_drawn : mg "_law_text_drawn" = some (.ref a__law_text_drawn)
  a__law_caught : Addr
  fd__law_caught : FuncData
  F__law_caught : Fun K "_law_caught" "_law_caught" s__law_caught a__law_caught fd__law_caught
  b__law_caught : Binds K fd__law_caught ["_law_call", "_law_word"] []
  m__law_caught : mg "_law_caught" = some (.ref a__law_caught)
  a__law_right : Addr
  fd__law_right : FuncData
  F__law_right : Fun K "_law_right" "_law_right" s__law_right a__law_right fd__law_right
  b__law_right : Binds K fd__law_right ["_law_pot_here"] []
  m__law_right : mg "_law_right" = some (.ref a__law_right)
  a_law : Addr
  fd_law : FuncData
  F_law : Fun K "law" "law" s_law a_law fd_law
  b_law : Binds K fd_law ["_law_script"] []
  m_law : mg "law" = some (.ref a_law)

/-! ### the pot -/
theorem atI_mem {xs : List V} {i : Int} (h0 : 0 ≤ i) (h1 : i < xs.length) : ∃ v, atI xs i = some v ∧ v ∈ xs := by
  have hj : i.toNat < xs.length := by omega
  exact ⟨xs[i.toNat], at_of (j := i.toNat) (by omega) (List.getElem?_eq_getElem hj), List.getElem_mem hj⟩
def spTake : Sp := fun vs H Q _ => ∃ (p : Addr) (c n : Int), vs = [.ref p, .int n] ∧ PotAt H p c ∧ c < 1000000 ∧ 0 < n ∧ n < 1073741824 ∧
  ∀ (H' : Hp) (r : Int), But p H H' → PotAt H' p (c + 1) → 0 ≤ r → r < n → Q (.int r) H'
section
variable {P : Program} {w : World} {K : PySem.W.Frag} {mg : Str → Option Value} {base : Heap}
theorem sq_upd {H : Hp} {p : Addr} {xs : List V} : SqL K (upd H p (.lst xs)) p xs := SqL.of upd_same
theorem ok_take (T : Tx P K mg) : FnOk P w K mg base CX0 1 T.a__law_take T.fd__law_take ["_law_pot_here", "_law_upto"] spTake := by
  refine T.F__law_take.ok sc__law_take (fun vs H Q E h => ?_) (fun cdv A outer s H vs Q E hr h => ?_)
  · obtain ⟨p, c, n, rfl, _⟩ := h
    rfl
  obtain ⟨p, c, n, rfl, ⟨x, y, z, hp, hx, hy, hy2, hz, hz2⟩, hc, hn, hn2, k⟩ := h
  refine ⟨_, (pss_cons (ps_if (pt_cmpR op_gt (pe_ix ix_list (pv 0) pe_int (fun _ _ => rfl)) pe_int (nomark _)) (pss_cons (ps_set (i := 2) sc__law_take.nd rfl (Or.inl rfl) (pe_op op_mod (pe_callTy call_int1 (by rfl) T.n_int PyProof.Rows.Boot.«int» (pa_cons (pe_ix ix_list (pv 0) pe_int (fun _ _ => rfl)) pa_nil)) (pv 1)))
      (pss_cons (ps_asg (pe_op op_fdiv (pe_ix ix_list (pv 0) pe_int (fun _ _ => rfl)) (pv 1)) (pg_sub (pv 0) pe_int set_list))
      (pss_one (ps_ret (pv 2))))) pss_nil)
      (pss_cons (ps_asg (pe_op op_add (pe_ix ix_list (pv 0) pe_int (fun _ _ => rfl)) pe_int) (pg_sub (pv 0) pe_int set_list))
      (pss_cons (ps_set (i := 3) sc__law_take.nd rfl (Or.inl rfl) (pe_ix ix_list (pe_lst (pa_cons pe_int (pa_cons pe_int (pa_cons pe_int (pa_cons pe_int (pa_cons pe_int pa_nil)))))) (pe_op op_mod (pe_callTy call_int1 (by rfl) T.n_int PyProof.Rows.Boot.«int» (pa_cons (pe_ix ix_list (pv 0) pe_int (fun _ _ => rfl)) pa_nil)) pe_int) (fun _ _ => rfl)))
      (pss_cons (ps_set (i := 4) sc__law_take.nd rfl (Or.inl rfl) (pe_op op_mod (pe_callTy call_int1 (by rfl) T.n_int PyProof.Rows.Boot.«int» (pa_cons (pe_op op_pow (pe_op op_add (pe_op op_add (pe_ix ix_list (pv 0) pe_int (fun _ _ => rfl)) (pe_op op_mul (pe_op op_mul pe_int (pe_ix ix_list (pv 0) pe_int (fun _ _ => rfl))) (pe_ix ix_list (pv 0) pe_int (fun _ _ => rfl)))) pe_int) pe_int) pa_nil)) (pv 3)))
      (pss_one (ps_ret (pe_op op_mod (pe_callTy call_int1 (by rfl) T.n_int PyProof.Rows.Boot.«int» (pa_cons (pe_op op_fdiv (pe_op op_mul (pv 4) (pe_op op_add (pe_op op_mod (pe_callTy call_int1 (by rfl) T.n_int PyProof.Rows.Boot.«int» (pa_cons (pv 4) pa_nil)) pe_int) (pe_op op_mul pe_int (pe_ix ix_list (pv 0) pe_int (fun _ _ => rfl))))) pe_int) pa_nil)) (pv 1)))))))), ?_⟩
  walk_at "r"
  refine ite2 (fun hb => ?_) fun hb => ?_
  · have hx0 : 0 < x := of_decide_eq_true hb
    walk_at "r"
    refine k _ (x % n) (fun b o nb e => ?_) ⟨x / n, y, z, upd_same, ?_, hy, hy2, hz, by omega⟩ (Int.emod_nonneg _ (by omega)) (Int.emod_lt_of_pos _ hn)
    · rw [upd_ne nb]
      exact e
    · exact Int.ediv_nonneg hx (by omega)
  · walk_at "r"
    intro q hq
    have nq : p ≠ q := by
      rintro rfl
      rw [upd_same] at hq
      cases hq
    have bt : But p H (upd (upd H p (.lst [.int x, .int y, .int (z + 1)])) q (.lst [.int 2147483647, .int 2147483629, .int 2147483587, .int 2147483579, .int 2147483563])) := fun b o nb e => by
      have n2 : b ≠ q := by
        rintro rfl
        have hq' : upd H p _ b = none := hq
        rw [upd_ne nb, e] at hq'
        cases hq'
      rw [upd_ne n2, upd_ne nb]
      exact e
    have hp1 : (upd (upd H p (.lst [.int x, .int y, .int (z + 1)])) q (.lst [.int 2147483647, .int 2147483629, .int 2147483587, .int 2147483579, .int 2147483563])) p = some (.lst [.int x, .int y, .int (z + 1)]) := by rw [upd_ne nq, upd_same]
    have hq1 : (upd (upd H p (.lst [.int x, .int y, .int (z + 1)])) q (.lst [.int 2147483647, .int 2147483629, .int 2147483587, .int 2147483579, .int 2147483563])) q = some (.lst [.int 2147483647, .int 2147483629, .int 2147483587, .int 2147483579, .int 2147483563]) := upd_same
    change tOp (rI (fun _ j => 0 < j) fun i j => V.int (i % j)) _ _ _ (upd (upd H p (.lst [.int x, .int y, .int (z + 1)])) q (.lst [.int 2147483647, .int 2147483629, .int 2147483587, .int 2147483579, .int 2147483563])) _
    generalize upd (upd H p (.lst [.int x, .int y, .int (z + 1)])) q (.lst [.int 2147483647, .int 2147483629, .int 2147483587, .int 2147483579, .int 2147483563]) = H1 at bt hp1 hq1 ⊢
    walk_at "r"
    obtain ⟨v, hv, hm⟩ := atI_mem (xs := [V.int 2147483647, .int 2147483629, .int 2147483587, .int 2147483579, .int 2147483563]) (i := (z + 1) % 5) (Int.emod_nonneg _ (by decide)) (Int.emod_lt_of_pos _ (by decide))
    obtain ⟨pr, rfl, pr0, pr1⟩ : ∃ pr : Int, v = .int pr ∧ 0 < pr ∧ pr < 2147483648 := by
      simp only [List.mem_cons, List.not_mem_nil, or_false] at hm
      rcases hm with rfl | rfl | rfl | rfl | rfl <;> exact ⟨_, rfl, by decide, by decide⟩
    refine ⟨q, _, _, _, rfl, rfl, SqL.of hq1, hv, ?_⟩
    have hzz : 70001 * (z + 1) * (z + 1) < 90000000000000000 := by
      have h1 : 70001 * (z + 1) * (z + 1) ≤ 70001 * 1000000 * 1000000 := Int.mul_le_mul (Int.mul_le_mul (by decide) (by omega) (by omega) (by decide)) (by omega) (by omega) (by decide)
      omega
    have hzz0 : 0 ≤ 70001 * (z + 1) * (z + 1) := Int.mul_nonneg (Int.mul_nonneg (by decide) (by omega)) (by omega)
    have st0 := Int.emod_nonneg ((y + 70001 * (z + 1) * (z + 1) + 67) ^ Int.toNat 3) (show pr ≠ 0 by omega)
    have st1 := Int.emod_lt_of_pos ((y + 70001 * (z + 1) * (z + 1) + 67) ^ Int.toNat 3) pr0
    walk_at "r"
    exact k H1 _ bt ⟨x, y, z + 1, hp1, hx, hy, hy2, by omega, by omega⟩ (Int.emod_nonneg _ (by omega)) (Int.emod_lt_of_pos _ hn)

def spOf (K : PySem.W.Frag) : Sp := fun vs H Q _ => ∃ (p l : Addr) (c : Int) (xs : List V), vs = [.ref p, .ref l] ∧ PotAt H p c ∧ c < 1000000 ∧ SqL K H l xs ∧ l ≠ p ∧ xs ≠ [] ∧ xs.length < 1000 ∧
  ∀ (H' : Hp) (v : V), But p H H' → PotAt H' p (c + 1) → v ∈ xs → Q v H'
theorem sq_but {p l : Addr} {H H' : Hp} {xs : List V} (b : But p H H') (n : l ≠ p) (h : SqL K H l xs) : SqL K H' l xs := by
  rcases h with (h | ⟨o, h⟩) | h
  · exact .inl (.inl (b _ _ n h))
  · exact .inl (.inr ⟨o, b _ _ n h⟩)
  · exact .inr h
theorem ok_of (T : Tx P K mg) : FnOk P w K mg base CX0 2 T.a__law_of T.fd__law_of ["_law_pot_here", "_law_some"] (spOf K) := by
  have G__law_take := ok_take (w := w) (base := base) T
  refine T.F__law_of.ok sc__law_of (fun vs H Q E h => ?_) (fun cdv A outer s H vs Q E hr h => ?_)
  · obtain ⟨p, l, c, xs, rfl, _⟩ := h
    rfl
  obtain ⟨p, l, c, xs, rfl, hp, hc, hl, nl, nx, hz, k⟩ := h
  have hz0 : 0 < xs.length := List.length_pos_iff.mpr nx
  refine ⟨_, (pss_one (ps_ret (pe_ix ix_list (pv 1) (pe_call G__law_take (hr.mono (by first | decide | omega)) (by rfl) T.m__law_take T.F__law_take.kp T.b__law_take .nil pass0 (pa_cons (pv 0) (pa_cons (pe_callB call_len (by rfl) T.n_len PyProof.Rows.Boot.«len» (pa_cons (pv 1) pa_nil)) pa_nil))) (fun _ _ => rfl)))), ?_⟩
  refine ⟨_, rfl, _, rfl, _, rfl, _, _, rfl, .inl ⟨_, hl, rfl⟩, p, c, _, rfl, hp, hc, by omega, by omega, fun H' r bt hp' h0 h1 => ?_⟩
  obtain ⟨v, hv, hm⟩ := atI_mem h0 h1
  exact ⟨l, xs, r, v, rfl, rfl, sq_but bt nl hl, hv, k H' v bt hp' hm⟩

def spPot (K : PySem.W.Frag) : Sp := fun vs H Q _ => ∃ (a : Addr) (ns : List Int) (i : Int), vs = [.ref a, .int i] ∧ SqL K H a (ns.map V.int) ∧ ns.length ≤ 63 ∧ 0 ≤ i ∧ i < 100 ∧
  ∀ (H' : Hp) (p : Addr), Same H H' → H p = none → PotAt H' p 0 → Q (.ref p) H'
theorem cmul_b {x : Int} {c : Bool} : CMul x (if c = true then 1 else 0) := .inr (by cases c <;> decide)
theorem own_nn {x m : Int} {c : Bool} (hm : 0 < m) : 0 ≤ x % m * (if c = true then 1 else 0) := Int.mul_nonneg (Int.emod_nonneg _ (by omega)) (by cases c <;> decide)
local macro_rules | `(tactic| walk_at "pot") => `(tactic| (
  walk_at "r"
  refine ⟨cmul_b, ?_⟩
  walk_at "r"))
theorem ok_pot (T : Tx P K mg) : FnOk P w K mg base CX0 1 T.a__law_pot T.fd__law_pot ["_law_script", "_law_k"] (spPot K) := by
  refine T.F__law_pot.ok sc__law_pot (fun vs H Q E h => ?_) (fun cdv A outer s H vs Q E hr h => ?_)
  · obtain ⟨a, ns, i, rfl, _⟩ := h
    rfl
  obtain ⟨a, ns, i, rfl, ha, hz, h0, h1, k⟩ := h
  refine ⟨_, (pss_cons (ps_set (i := 2) sc__law_pot.nd rfl (Or.inl rfl) (pe_ifExp (pt_cmpR op_lt (pv 1) (pe_callB call_len (by rfl) T.n_len PyProof.Rows.Boot.«len» (pa_cons (pv 0) pa_nil)) (nomark _)) (pe_ix ix_list (pv 0) (pv 1) (fun _ _ => rfl)) (pe_op op_add (pe_op op_mul pe_int (pv 1)) pe_int)))
      (pss_cons (ps_set (i := 3) sc__law_pot.nd rfl (Or.inl rfl) (pe_op op_mul (pe_op op_mod (pe_callTy call_int1 (by rfl) T.n_int PyProof.Rows.Boot.«int» (pa_cons (pe_callB call_abs (by rfl) T.n_abs PyProof.Rows.Boot.«abs» (pa_cons (pv 2) pa_nil)) pa_nil)) (pe_op op_powW (pe_op op_pow pe_int pe_int) pe_int)) (pe_callTy call_int1 (by rfl) T.n_int PyProof.Rows.Boot.«int» (pa_cons (pe_cmpR op_ge (pe_callB call_abs (by rfl) T.n_abs PyProof.Rows.Boot.«abs» (pa_cons (pv 2) pa_nil)) (pe_op op_pow pe_int pe_int) (nomark _)) pa_nil))))
      (pss_one (ps_ret (pe_lst (pa_cons (pv 3) (pa_cons (pe_op op_mod (pe_callTy call_int1 (by rfl) T.n_int PyProof.Rows.Boot.«int» (pa_cons (pe_op op_add (pe_op op_add (pe_op op_mul (pe_op op_mod (pe_callTy call_int1 (by rfl) T.n_int PyProof.Rows.Boot.«int» (pa_cons (pv 2) pa_nil)) pe_int) pe_int) (pe_op op_mul (pe_op op_mul pe_int (pv 1)) (pv 1))) pe_int) pa_nil)) pe_int) (pa_cons pe_int pa_nil)))))))), ?_⟩
  refine ⟨_, rfl, _, rfl, _, _, rfl, .inl ⟨_, ha, rfl⟩, _, _, rfl, rfl, _, rfl, ite2 (fun hb => ?_) fun hb => ?_⟩
  · obtain ⟨v, hv, hm⟩ := atI_mem (xs := ns.map V.int) h0 (of_decide_eq_true hb)
    obtain ⟨cell, _, rfl⟩ := List.mem_map.mp hm
    refine ⟨_, rfl, _, rfl, a, _, _, _, rfl, rfl, ha, hv, ?_⟩
    walk_at "pot"
    exact fun p np => k _ p (same_new np) np ⟨_, _, _, upd_same, own_nn (by decide), Int.emod_nonneg _ (by decide), Int.emod_lt_of_pos _ (by decide), Int.le_refl _, Int.le_refl _⟩
  · walk_at "r"
    walk_at "pot"
    exact fun p np => k _ p (same_new np) np ⟨_, _, _, upd_same, own_nn (by decide), Int.emod_nonneg _ (by decide), Int.emod_lt_of_pos _ (by decide), Int.le_refl _, Int.le_refl _⟩
end
end K88
end
section
--@@ gend
set_option Elab.async false
set_option linter.all false
set_option maxRecDepth 100000
set_option maxHeartbeats 4000000
namespace K88
open PySem PySem.Spec PyProof.Rows L2 Tg Dw
local macro_rules | `(tactic| walk_at "d") => `(tactic| simp only [DVar, DCon, DLock, DLockV, DCons, DNil, DOp, DOpN, DUn, DTup, DLst, DCB, DCBN, DMt, DMtN, isB, DB, DNot, DAnd, DOr, DAndV, DOrV, DNotV, DIf, DChain, DNext, DSeq, DIfS, DRet, DDrop, DSet, DSetN, GName, GNil, GCons, GTup, DAsgG, DPar, isL, isT, isS, isI, IList, ITup, IStr, IRng1, IRng2, DFor, DLc, DYes, RInt, RIntC, RStr, RCatS, eqC, REq, RNe, isNone, RIsN, RNotN, RInS, RIx, RSlS, ONone, OSome, DSl, DSlN, on1, on2, RLen, RIntOf, RIntS, RStrI, RAbs, RMin2, RMax2, RAll, RAny, NList, RTuple, RReprD, MStarts, MFind, MJoin, tyB, DIs, DIs3, DApp, DCall, DCallX, DRaise, startD, RAdd, RLe, RInX, NCat, RMulX, NSlL, DFzS, DAug, DCallP, startP, wipeD, List.length_cons, List.length_nil, List.map_cons, List.map_nil, List.replicate_succ, List.replicate_zero, List.cons_append, List.nil_append, List.getElem?_cons_zero, List.getElem?_cons_succ, List.set_cons_zero, List.set_cons_succ, Nat.reduceAdd, Nat.reduceSub, Nat.zero_add, Bool.not_true, Bool.not_false, Bool.false_eq_true, if_true, if_false, reduceIte, reduceCtorEq, beq_self_eq_true, Bool.true_or, Bool.or_true, Bool.false_or, Bool.or_false, String.reduceBEq, Option.some.injEq, false_and, and_false, exists_const])
def low (c : Nat) : Bool := decide (97 ≤ c) && decide (c ≤ 122)
def isNm : PyData → Bool
  | .str x => decide (1 ≤ x.length) && decide (x.length ≤ 8) && x.cps.toList.all low
  | _ => false
theorem one_lt {a b : Nat} : ([a] < [b]) ↔ a < b := by simp [List.cons_lt_cons_iff]
theorem chr_a {c : Nat} : (!decide ((#[c] : Array Nat).toList < (Str.ofString "a").cps.toList)) = decide (97 ≤ c) := by
  have e : (Str.ofString "a").cps.toList = [97] := by decide +kernel
  rw [e]
  show (!decide ([c] < [97])) = _
  by_cases h : 97 ≤ c
  · rw [decide_eq_true h, decide_eq_false (by rw [one_lt]; omega)]
    rfl
  · rw [decide_eq_false h, decide_eq_true (by rw [one_lt]; omega)]
    rfl
theorem chr_z {c : Nat} : (!decide ((Str.ofString "z").cps.toList < (#[c] : Array Nat).toList)) = decide (c ≤ 122) := by
  have e : (Str.ofString "z").cps.toList = [122] := by decide +kernel
  rw [e]
  show (!decide ([122] < [c])) = _
  by_cases h : c ≤ 122
  · rw [decide_eq_true h, decide_eq_false (by rw [one_lt]; omega)]
    rfl
  · rw [decide_eq_false h, decide_eq_true (by rw [one_lt]; omega)]
    rfl
theorem chars_get {x : Str} {i : Nat} {y : PyData} (h : (chars x)[i]? = some y) : ∃ c, x.cps.toList[i]? = some c ∧ y = .str ⟨#[c]⟩ := by
  unfold chars at h
  rw [List.getElem?_map] at h
  cases q : x.cps.toList[i]? with
  | none => rw [q] at h; cases h
  | some c =>
    rw [q] at h
    simp only [Option.map_some, Option.some.injEq] at h
    exact ⟨c, rfl, h.symm⟩
section
variable {P : Program} {w : World} {K : PySem.W.Frag} {mg : Str → Option Value} {base : Heap}
def FName : DF := fun ds Kk => ∃ d, ds = [d] ∧ (∀ x, d = .str x → x.length ≤ 1000000) ∧ Kk (.bool (isNm d))
theorem ok_name (T : Tx P K mg) : FnOk P w K mg base CX0 1 T.a_is_name T.fd_is_name ["value"] (spD FName) := by
  refine Dw.okD T.F_is_name sc_is_name (fun ds Kk h => ?_) (fun cdv A outer s H E ds Kk hr h => ⟨_, _, (pss_cons (ps_if (PW.pt (pw_or (pt_not (pt_val (pe_callB call_isD (by rfl) T.n_isinstance PyProof.Rows.Boot.«isinstance» (pa_cons (pv 0) (pa_cons (pe_bltn (v := .ty "str") (by rfl) T.n_str PyProof.Rows.Boot.«str» rfl) pa_nil))))) (pw_or1 (pt_not (pt_chain dLeX dLeX pe_int (pe_callB dLen (by rfl) T.n_len PyProof.Rows.Boot.«len» (pa_cons (pv 0) pa_nil)) (pe_glob (v := .int 8) (by rfl) T.m_MOST_LETTERS ⟨_, rfl⟩)))))) (pss_one (ps_ret pe_bl)) pss_nil)
      (pss_one (ps_ret (pe_callB (dAll rfl) (by rfl) T.n_all PyProof.Rows.Boot.«all» (pa_cons (pe_fz (pe_lc (own := [("letter", 1)]) (g := gName 1) (tt := tYes) (by rfl) sc_is_name.nd (pi_str (pv 0)) (blkOk_by (own := [("letter", 1)]) (N := ["value", "letter"]) (sc := defScope s_is_name) (by decide +kernel)) (fun _ _ _ _ _ => (pg_name (i := 1) sc_is_name.nd rfl (Or.inl rfl))) (fun _ _ _ _ _ => pts_nil) (fun _ _ _ _ _ => (pe_chain dLeX dLeX pe_str (pv 1) pe_str)))) pa_nil))))), inferInstance, ?_⟩)
  · obtain ⟨d, rfl, _⟩ := h
    rfl
  obtain ⟨d, rfl, hz, k⟩ := h
  cases d with
  | str x =>
    have hx := hz x rfl
    walk_at "d"
    have e2 : isNm (.str x) = (decide (1 ≤ x.length) && decide (x.length ≤ 8) && (x.cps.toList.map low).all id) := by simp [isNm, List.all_map, Function.comp_def]
    rw [e2] at k
    refine ⟨by omega, ?_⟩
    by_cases h1 : 1 ≤ x.length
    · rw [if_pos (by simp; omega)]
      by_cases h8 : x.length ≤ 8
      · rw [if_neg (by simp; omega)]
        rw [decide_eq_true h1, decide_eq_true h8] at k
        refine lc_map (fun d => match d with
          | .str z => .bool (z.cps.toList.all low)
          | _ => .none) (fun i y hy Q hQ => ?_) ?_ ?_
        · obtain ⟨c, hc, rfl⟩ := chars_get hy
          walk_at "d"
          rw [chr_a, chr_z]
          have e : low c = (decide (97 ≤ c) && decide (c ≤ 122)) := rfl
          simp only [List.all_cons, List.all_nil, Bool.and_true, e] at hQ
          cases ha : decide (97 ≤ c) <;> rw [ha] at hQ <;> exact hQ _ rfl
        · walk_at "d"
          refine ⟨x.cps.toList.map low, ?_, k⟩
          simp [chars, Function.comp_def]
        · have : (chars x).length = x.length := by simp [chars, Str.length]
          omega
      · rw [if_pos (by simp; omega)]
        rw [decide_eq_false h8, Bool.and_false] at k
        exact k
    · rw [if_neg (by simp; omega)]
      rw [decide_eq_false h1] at k
      exact k
  | _ =>
    walk_at "d"
    exact k
end
end K88
end
section
--@@ gend
set_option Elab.async false
set_option linter.all false
set_option maxRecDepth 100000
set_option maxHeartbeats 4000000
namespace K88
open PySem PySem.Spec PyProof.Rows L2 Tg Dw
local macro_rules | `(tactic| walk_at "d") => `(tactic| simp only [DVar, DCon, DLock, DLockV, DCons, DNil, DOp, DOpN, DUn, DTup, DLst, DCB, DCBN, DMt, DMtN, isB, DB, DNot, DAnd, DOr, DAndV, DOrV, DNotV, DIf, DChain, DNext, DSeq, DIfS, DRet, DDrop, DSet, DSetN, GName, GNil, GCons, GTup, DAsgG, DPar, isL, isT, isS, isI, IList, ITup, IStr, IRng1, IRng2, DFor, DLc, DYes, RInt, RIntC, RStr, RCatS, eqC, REq, RNe, isNone, RIsN, RNotN, RInS, RIx, RSlS, ONone, OSome, DSl, DSlN, on1, on2, RLen, RIntOf, RIntS, RStrI, RAbs, RMin2, RMax2, RAll, RAny, NList, RTuple, RReprD, MStarts, MFind, MJoin, tyB, DIs, DIs3, DApp, DCall, DCallX, DRaise, startD, RAdd, RLe, RInX, NCat, RMulX, NSlL, DFzS, DAug, DCallP, startP, wipeD, IItems, DDGet, DDIn, NSortedD, NListD, MDict, DCBM, List.length_cons, List.length_nil, List.map_cons, List.map_nil, List.replicate_succ, List.replicate_zero, List.cons_append, List.nil_append, List.getElem?_cons_zero, List.getElem?_cons_succ, List.set_cons_zero, List.set_cons_succ, Nat.reduceAdd, Nat.reduceSub, Nat.zero_add, Bool.not_true, Bool.not_false, Bool.false_eq_true, if_true, if_false, reduceIte, reduceCtorEq, beq_self_eq_true, Bool.true_or, Bool.or_true, Bool.false_or, Bool.or_false, String.reduceBEq, Option.some.injEq, false_and, and_false, exists_const, true_and, and_true])
mutual
def isDoc : PyData → Bool
  | .list ds => isDocL ds
  | .dict kds => isDocK kds
  | .tuple _ => false
  | .none | .bool _ | .int _ | .str _ => true
def isDocL : List PyData → Bool
  | [] => true
  | d :: ds => isDoc d && isDocL ds
def isDocK : List (PyData × PyData) → Bool
  | [] => true
  | (k, d) :: r => (isNm k && isDoc d) && isDocK r
end
mutual
/-- nothing in it is long -/
def fit : PyData → Bool
  | .str x => decide (x.length ≤ 1000)
  | .list ds => decide (ds.length ≤ 1000) && fitL ds
  | .tuple ds => decide (ds.length ≤ 1000) && fitL ds
  | .dict kds => decide (kds.length ≤ 1000) && fitK kds
  | .none | .bool _ | .int _ => true
def fitL : List PyData → Bool
  | [] => true
  | d :: ds => fit d && fitL ds
def fitK : List (PyData × PyData) → Bool
  | [] => true
  | (k, d) :: r => (fit k && fit d) && fitK r
end
theorem fitL_get : ∀ {ds : List PyData} {d : PyData}, fitL ds = true → d ∈ ds → fit d = true ∧ d.depth ≤ PyData.depthAll ds
  | e :: ds, d, h, m => by
    simp only [fitL, Bool.and_eq_true] at h
    simp only [PyData.depthAll]
    rcases List.mem_cons.mp m with rfl | m
    · exact ⟨h.1, by omega⟩
    · have := fitL_get h.2 m
      exact ⟨this.1, by omega⟩
theorem fitK_get : ∀ {ds : List (PyData × PyData)} {k d : PyData}, fitK ds = true → (k, d) ∈ ds → fit k = true ∧ fit d = true ∧ d.depth ≤ PyData.depthKv ds
  | (k', e) :: ds, k, d, h, m => by
    simp only [fitK, Bool.and_eq_true] at h
    simp only [PyData.depthKv]
    rcases List.mem_cons.mp m with m | m
    · cases m
      exact ⟨h.1.1, h.1.2, by omega⟩
    · have := fitK_get h.2 m
      exact ⟨this.1, this.2.1, by omega⟩
theorem docL_all : ∀ ds : List PyData, isDocL ds = (ds.map isDoc).all id
  | [] => rfl
  | d :: ds => by simp [isDocL, docL_all ds]
theorem docK_all : ∀ ds : List (PyData × PyData), isDocK ds = (ds.map fun p => isNm p.1 && isDoc p.2).all id
  | [] => rfl
  | (k, d) :: ds => by simp [isDocK, docK_all ds]
section
variable {P : Program} {w : World} {K : PySem.W.Frag} {mg : Str → Option Value} {base : Heap}
theorem fn_never {CX : CXT} {k : Nat} {f : Addr} {fd : FuncData} {ps : List Str} {sp : Sp} (h : ∀ vs H Q E, ¬ sp vs H Q E) : FnOk P w K mg base CX k f fd ps sp :=
  ⟨fun vs H Q E q => (h _ _ _ _ q).elim, fun A o s H ag us vs Q E r e bd rel q => (h _ _ _ _ q).elim⟩
def FDoc (n : Nat) : DF := fun ds Kk => ∃ d, ds = [d] ∧ fit d = true ∧ d.depth < n ∧ Kk (.bool (isDoc d))
theorem doc_step (T : Tx P K mg) {n : Nat} (G_is_document : FnOk P w K mg base CX0 (n + 1) T.a_is_document T.fd_is_document ["value"] (spD (FDoc n))) : FnOk P w K mg base CX0 (n + 2) T.a_is_document T.fd_is_document ["value"] (spD (FDoc (n + 1))) := by
  have G_is_name := ok_name (w := w) (base := base) T
  refine Dw.okD T.F_is_document sc_is_document (fun ds Kk h => ?_) (fun cdv A outer s H E ds Kk hr h => ⟨_, _, (pss_cons (ps_if (pt_val (pe_callB call_isD (by rfl) T.n_isinstance PyProof.Rows.Boot.«isinstance» (pa_cons (pv 0) (pa_cons (pe_bltn (v := .ty "list") (by rfl) T.n_list PyProof.Rows.Boot.«list» rfl) pa_nil)))) (pss_one (ps_ret (pe_callB (dAll rfl) (by rfl) T.n_all PyProof.Rows.Boot.«all» (pa_cons (pe_fz (pe_lc (own := [("part", 1)]) (g := gName 1) (tt := tYes) (by rfl) sc_is_document.nd (pi_list (pv 0)) (blkOk_by (own := [("part", 1)]) (N := ["value", "part", "field"]) (sc := defScope s_is_document) (by decide +kernel)) (fun _ _ _ _ _ => (pg_name (i := 1) sc_is_document.nd rfl (Or.inl rfl))) (fun _ _ _ _ _ => pts_nil) (fun _ _ _ _ _ => (pe_call G_is_document (hr.mono (by first | decide | omega)) (by rfl) T.m_is_document T.F_is_document.kp T.b_is_document .nil pass0 (pa_cons (pv 1) pa_nil))))) pa_nil)))) pss_nil)
      (pss_cons (ps_if (pt_val (pe_callB call_isD (by rfl) T.n_isinstance PyProof.Rows.Boot.«isinstance» (pa_cons (pv 0) (pa_cons (pe_bltn (v := .ty "dict") (by rfl) T.n_dict PyProof.Rows.Boot.«dict» rfl) pa_nil)))) (pss_one (ps_ret (pe_callB (dAll rfl) (by rfl) T.n_all PyProof.Rows.Boot.«all» (pa_cons (pe_fz (pe_lc (own := [("field", 2), ("part", 1)]) (g := gTup K 2 (gCons (gName 2) (gCons (gName 1) (gNil)))) (tt := tYes) (by rfl) sc_is_document.nd (pi_itemsN (pv 0)) (blkOk_by (own := [("field", 2), ("part", 1)]) (N := ["value", "part", "field"]) (sc := defScope s_is_document) (by decide +kernel)) (fun _ _ _ _ _ => (pg_tup rfl (pgs_cons (pg_name (i := 2) sc_is_document.nd rfl (Or.inl rfl)) (pgs_cons (pg_name (i := 1) sc_is_document.nd rfl (Or.inl rfl)) pgs_nil)))) (fun _ _ _ _ _ => pts_nil) (fun _ _ _ _ _ => (pe_and (pe_call G_is_name (hr.mono (by first | decide | omega)) (by rfl) T.m_is_name T.F_is_name.kp T.b_is_name .nil pass0 (pa_cons (pv 2) pa_nil)) (pe_one (pe_call G_is_document (hr.mono (by first | decide | omega)) (by rfl) T.m_is_document T.F_is_document.kp T.b_is_document .nil pass0 (pa_cons (pv 1) pa_nil))))))) pa_nil)))) pss_nil)
      (pss_one (ps_ret (pe_or (pe_cmpR dIsN (pv 0) pe_non (nomark _)) (pe_one (pe_callB call_isDT (by rfl) T.n_isinstance PyProof.Rows.Boot.«isinstance» (pa_cons (pv 0) (pa_cons (pe_tup (pa_cons (pe_bltn (v := .ty "bool") (by rfl) T.n_bool PyProof.Rows.Boot.«bool» rfl) (pa_cons (pe_bltn (v := .ty "int") (by rfl) T.n_int PyProof.Rows.Boot.«int» rfl) (pa_cons (pe_bltn (v := .ty "str") (by rfl) T.n_str PyProof.Rows.Boot.«str» rfl) pa_nil)))) pa_nil))))))))), inferInstance, ?_⟩)
  · obtain ⟨d, rfl, _⟩ := h
    rfl
  obtain ⟨d, rfl, hf, hd, k⟩ := h
  cases d with
  | list xs =>
    simp only [fit, Bool.and_eq_true, decide_eq_true_eq] at hf
    simp only [PyData.depth] at hd
    rw [isDoc, docL_all] at k
    walk_at "d"
    refine lc_map (fun d => .bool (isDoc d)) (fun i y hy Q hQ => ?_) ?_ (by omega)
    · obtain ⟨h1, h2⟩ := fitL_get hf.2 (List.mem_of_getElem? hy)
      walk_at "d"
      exact ⟨y, rfl, h1, by omega, hQ _ rfl⟩
    · walk_at "d"
      exact ⟨xs.map isDoc, by rw [List.map_map]; rfl, k⟩
  | dict kds =>
    simp only [fit, Bool.and_eq_true, decide_eq_true_eq] at hf
    simp only [PyData.depth] at hd
    rw [isDoc, docK_all] at k
    walk_at "d"
    refine lc_map (fun d => match d with
      | .tuple [a, b] => .bool (isNm a && isDoc b)
      | _ => .none) (fun i y hy Q hQ => ?_) ?_ (by rw [List.length_map]; omega)
    · rw [List.getElem?_map] at hy
      cases q : kds[i]? with
      | none => rw [q] at hy; cases hy
      | some p =>
        obtain ⟨a, b⟩ := p
        rw [q] at hy
        cases hy
        obtain ⟨h1, h2, h3⟩ := fitK_get hf.2 (List.mem_of_getElem? q)
        walk_at "d"
        refine ⟨a, rfl, fun x e => ?_, ?_⟩
        · subst e
          simp only [fit, decide_eq_true_eq] at h1
          omega
        · simp only at hQ
          cases hn : isNm a with
          | true =>
            rw [hn] at hQ
            exact ⟨b, rfl, h2, by omega, hQ _ rfl⟩
          | false =>
            rw [hn] at hQ
            exact hQ _ rfl
    · walk_at "d"
      refine ⟨kds.map fun p => isNm p.1 && isDoc p.2, by rw [List.map_map, List.map_map]; rfl, k⟩
  | _ =>
    walk_at "d"
    simpa only [isDoc] using k
theorem ok_doc (T : Tx P K mg) : ∀ n : Nat, FnOk P w K mg base CX0 (n + 1) T.a_is_document T.fd_is_document ["value"] (spD (FDoc n))
  | 0 => fn_never fun vs H Q E h => by
      obtain ⟨ds, Kk, r, ⟨d, _, _, z, _⟩, _⟩ := h
      exact Nat.not_lt_zero _ z
  | n + 1 => doc_step T (ok_doc T n)
def FChk (C : Addr) (n : Nat) : DFX := fun ds Kk Ex => ∃ d, ds = [d] ∧ fit d = true ∧ d.depth < n ∧ (isDoc d = true → Kk .none) ∧ (isDoc d = false → Ex C d)
theorem ok_chk (T : Tx P K mg) (n : Nat) : FnOk P w K mg base (L2.CX P w) (n + 3) T.a_check_document T.fd_check_document ["value"] (spX (FChk T.C_NoDocument n)) := by
  have G_is_document := ok_doc (w := w) (base := base) T n
  refine Dw.okX T.F_check_document sc_check_document (fun ds Kk Ex h => ?_) (fun cdv A outer s H E ds Kk Ex ex hr h => ⟨_, _, (pss_one (ps_if (pt_not (pt_val (pe_call G_is_document (hr.mono (by first | decide | omega)) (by rfl) T.m_is_document T.F_is_document.kp T.b_is_document .nil pass0 (pa_cons (pv 0) pa_nil)))) (pss_one (ps_raiseD rfl (takes_of rfl rfl rfl rfl) T.e_NoDocument T.ini (hr.mono (by first | decide | omega)) (by rfl) T.m_NoDocument T.b_ini (pv 0))) pss_nil)), inferInstance, ?_⟩)
  · obtain ⟨d, rfl, _⟩ := h
    rfl
  obtain ⟨d, rfl, hf, hd, k1, k2⟩ := h
  walk_at "d"
  refine ⟨d, rfl, hf, hd, ?_⟩
  walk_at "d"
  cases q : isDoc d with
  | true => exact k1 q
  | false => exact k2 q
end
end K88
end
section
--@@ gend
set_option Elab.async false
set_option linter.all false
set_option maxRecDepth 100000
set_option maxHeartbeats 4000000
namespace K88
open PySem PySem.Spec PyProof.Rows L2 Tg Dw
local macro_rules | `(tactic| walk_at "d") => `(tactic| simp only [DVar, DCon, DLock, DLockV, DCons, DNil, DOp, DOpN, DUn, DTup, DLst, DCB, DCBN, DMt, DMtN, isB, DB, DNot, DAnd, DOr, DAndV, DOrV, DNotV, DIf, DChain, DNext, DSeq, DIfS, DRet, DDrop, DSet, DSetN, GName, GNil, GCons, GTup, DAsgG, DPar, isL, isT, isS, isI, IList, ITup, IStr, IRng1, IRng2, DFor, DLc, DYes, RInt, RIntC, RStr, RCatS, eqC, REq, RNe, isNone, RIsN, RNotN, RInS, RIx, RSlS, ONone, OSome, DSl, DSlN, on1, on2, RLen, RIntOf, RIntS, RStrI, RAbs, RMin2, RMax2, RAll, RAny, NList, RTuple, RReprD, MStarts, MFind, MJoin, tyB, DIs, DIs3, DApp, DCall, DCallX, DRaise, startD, RAdd, RLe, RInX, NCat, RMulX, NSlL, DFzS, DAug, DCallP, startP, wipeD, IItems, DDGet, DDIn, NSortedD, NListD, MDict, DCBM, List.length_cons, List.length_nil, List.map_cons, List.map_nil, List.replicate_succ, List.replicate_zero, List.cons_append, List.nil_append, List.getElem?_cons_zero, List.getElem?_cons_succ, List.set_cons_zero, List.set_cons_succ, Nat.reduceAdd, Nat.reduceSub, Nat.zero_add, Bool.not_true, Bool.not_false, Bool.false_eq_true, if_true, if_false, reduceIte, reduceCtorEq, beq_self_eq_true, Bool.true_or, Bool.or_true, Bool.false_or, Bool.or_false, String.reduceBEq, Option.some.injEq, false_and, and_false, exists_const, true_and, and_true, PyData.str.injEq, exists_eq', Nat.reduceLeDiff])
abbrev cs (z : Str) : List Nat := z.cps.toList
theorem len_cs (z : Str) : (cs z).length = z.length := Array.length_toList
theorem str_eq {x y : Str} (h : cs x = cs y) : x = y := by
  obtain ⟨⟨a⟩⟩ := x
  obtain ⟨⟨b⟩⟩ := y
  have : a = b := h
  rw [this]
def ofL (l : List Nat) : Str := ⟨l.toArray⟩
theorem cs_ofL (l : List Nat) : cs (ofL l) = l := rfl
/-- p stands at i -/
def pre (p l : List Nat) (i : Nat) : Bool := decide ((l.drop i).take p.length = p)
/-- the part from i to j -/
def sub (l : List Nat) (i j : Nat) : List Nat := (l.drop i).take (j - i)
theorem sIx_nat {n d i : Nat} : HT.sIx n d (some (i : Int)) = min i n := by
  unfold HT.sIx
  simp only
  rw [if_neg (by omega)]
  simp
theorem cut_cs {z : Str} {i j : Nat} : cs (cutS z (some (i : Int)) (some (j : Int))) = sub (cs z) i j := by
  unfold cutS sub
  rw [sIx_nat, sIx_nat]
  show ((cs z).drop (min i z.length)).take (min j z.length - min i z.length) = _
  by_cases h : i ≤ z.length
  · rw [Nat.min_eq_left h]
    by_cases h2 : j ≤ z.length
    · rw [Nat.min_eq_left h2]
    · rw [Nat.min_eq_right (by omega), List.take_of_length_le, List.take_of_length_le]
      · rw [List.length_drop, len_cs]; omega
      · rw [List.length_drop, len_cs]; omega
  · rw [List.drop_of_length_le (by rw [len_cs]; omega), List.drop_of_length_le (by rw [len_cs]; omega)]
    simp
theorem cut_eq {z : Str} {i j : Nat} : cutS z (some (i : Int)) (some (j : Int)) = ofL (sub (cs z) i j) := str_eq cut_cs
theorem from_nat {n i : Nat} : fromIndex n (i : Int) = i := by
  unfold fromIndex
  rw [if_neg (by omega)]
  omega
theorem sub_at {x y : Str} {i : Nat} : Builtin.Str.subAt x y i = decide (((cs x).drop i).take y.length = cs y) := by
  unfold Builtin.Str.subAt
  rw [Bool.eq_iff_iff, decide_eq_true_eq, beq_iff_eq]
  constructor
  · intro h
    have h2 := congrArg Array.toList h
    rw [Array.toList_extract] at h2
    simpa [List.extract] using h2
  · intro h
    apply Array.toList_inj.mp
    rw [Array.toList_extract]
    simpa [List.extract] using h
theorem starts_eq {x y : Str} {i : Nat} (hy : 0 < y.length) : Txt.startswith3 x y (i : Int) = pre (cs y) (cs x) i := by
  unfold Txt.startswith3 pre
  rw [from_nat, sub_at, len_cs]
  by_cases h : ((cs x).drop i).take y.length = cs y
  · rw [decide_eq_true h, Bool.and_true, decide_eq_true]
    have := congrArg List.length h
    rw [List.length_take, List.length_drop, len_cs, len_cs] at this
    omega
  · rw [decide_eq_false h, Bool.and_false]
theorem at_nat {α : Type} {l : List α} {i : Nat} {c : α} (h : l[i]? = some c) : atI l (i : Int) = some c := by
  have hl := (List.getElem?_eq_some_iff.mp h).1
  unfold atI ixN
  rw [if_pos (by omega), if_pos (by omega)]
  exact h
def isDig (c : Nat) : Bool := decide (48 ≤ c) && decide (c ≤ 57)
theorem dig_mem {c : Nat} : decide (c ∈ (Str.ofString "0123456789").cps.toList) = isDig c := by
  have e : (Str.ofString "0123456789").cps.toList = [48, 49, 50, 51, 52, 53, 54, 55, 56, 57] := by decide +kernel
  rw [e, isDig, Bool.eq_iff_iff]
  simp only [List.mem_cons, List.not_mem_nil, or_false, decide_eq_true_eq, Bool.and_eq_true]
  omega
/-- where the figures from i on end -/
def digs (l : List Nat) (i : Nat) : Nat := i + ((l.drop i).takeWhile isDig).length
theorem digs_le {l : List Nat} {i : Nat} (h : i ≤ l.length) : digs l i ≤ l.length := by
  unfold digs
  have h2 : ((l.drop i).takeWhile isDig).length ≤ (l.drop i).length := NumText.len_takeWhile _ _
  rw [List.length_drop] at h2
  omega
theorem drop_at {l : List Nat} {i : Nat} {c : Nat} (h : l[i]? = some c) : l.drop i = c :: l.drop (i + 1) := by
  obtain ⟨hl, e⟩ := List.getElem?_eq_some_iff.mp h
  rw [List.drop_eq_getElem_cons hl, e]
theorem digs_next {l : List Nat} {i : Nat} {c : Nat} (h : l[i]? = some c) : digs l i = if isDig c = true then digs l (i + 1) else i := by
  unfold digs
  rw [drop_at h, List.takeWhile_cons]
  cases isDig c with
  | true =>
    simp only [if_true, List.length_cons]
    omega
  | false => simp
theorem digs_end {l : List Nat} {i : Nat} (h : l.length ≤ i) : digs l i = i := by
  unfold digs
  rw [List.drop_of_length_le h]
  rfl
theorem DWhile.by_ {T : TDT} {U : TDS} {DD : DEnds} {ρ : DSt} (W : Nat → DSt → Prop) (n : Nat) (h0 : W n ρ) (hs : ∀ n ρ, W n ρ → T ρ fun b ρ1 => if b = true then U { nx := fun ρ' => ∃ m, m < n ∧ W m ρ', rt := DD.rt, bk := DD.nx, ct := fun ρ' => ∃ m, m < n ∧ W m ρ' } ρ1 else DD.nx ρ1) : DWhile T U DD ρ := ⟨W, ⟨n, h0⟩, hs⟩
section
variable {P : Program} {w : World} {K : PySem.W.Frag} {mg : Str → Option Value} {base : Heap}
def FDigs : DF := fun ds Kk => ∃ (z : Str) (i : Nat), ds = [.str z, .int i] ∧ z.length ≤ 600 ∧ i ≤ z.length ∧ Kk (.int (digs (cs z) i))
theorem ok_digs (T : Tx P K mg) : FnOk P w K mg base CX0 1 T.a_digits_behind T.fd_digits_behind ["text", "at"] (spD FDigs) := by
  refine Dw.okD T.F_digits_behind sc_digits_behind (fun ds Kk h => ?_) (fun cdv A outer s H E ds Kk hr h => ⟨_, _, (pss_cons (ps_while PassesOwn.never (PW.pt (pw_and (pt_cmpR dLt (pv 1) (pe_callB dLen (by rfl) T.n_len PyProof.Rows.Boot.«len» (pa_cons (pv 0) pa_nil)) (nomark _)) (pw_and1 (pt_cmpR dInX (pe_ix dIx (pv 0) (pv 1) (fun _ _ => rfl)) (pe_glob (v := .str "0123456789") (by rfl) T.m_DIGITS ⟨_, rfl⟩) (by rfl))))) (pss_one (ps_aug (i := 1) sc_digits_behind.nd rfl (Or.inl rfl) pe_int ipAdd)))
      (pss_one (ps_ret (pv 1)))), inferInstance, ?_⟩)
  · obtain ⟨z, i, rfl, _⟩ := h
    rfl
  obtain ⟨z, i, rfl, hz, hi, k⟩ := h
  walk_at "d"
  refine DWhile.by_ (fun n ρ => ∃ j : Nat, ρ = [some (.d (.str z)), some (.d (.int j))] ∧ j ≤ z.length ∧ n = z.length - j ∧ digs (cs z) j = digs (cs z) i) _ ⟨i, rfl, hi, rfl, rfl⟩ ?_
  rintro n ρ ⟨j, rfl, hj, rfl, e⟩
  walk_at "d"
  refine ⟨by omega, ?_⟩
  by_cases h : j < z.length
  · rw [if_pos (by simp; omega)]
    have hc : (cs z)[j]? = some ((cs z)[j]'(by rw [len_cs]; exact h)) := List.getElem?_eq_getElem _
    generalize (cs z)[j]'(by rw [len_cs]; exact h) = c at hc
    refine ⟨by omega, c, at_nat hc, c, rfl, ?_⟩
    rw [dig_mem]
    rw [digs_next hc] at e
    cases hd : isDig c with
    | true =>
      rw [hd] at e
      walk_at "d"
      exact ⟨z.length - (j + 1), by omega, j + 1, rfl, by omega, rfl, e⟩
    | false =>
      rw [hd] at e
      have e' : j = digs (cs z) i := e
      rw [e']
      exact k
  · rw [if_neg (by simp; omega)]
    rw [digs_end (by rw [len_cs]; omega)] at e
    rw [e]
    exact k
end
/-! ### numbers -/
theorem digs_ge {l : List Nat} {i : Nat} : i ≤ digs l i := Nat.le_add_right _ _
theorem digs_all {l : List Nat} {i : Nat} : (sub l i (digs l i)).all isDig = true := by
  unfold sub digs
  rw [Nat.add_sub_cancel_left]
  generalize l.drop i = r
  induction r with
  | nil => rfl
  | cons c r ih =>
    rw [List.takeWhile_cons]
    cases hc : isDig c with
    | true => simp [hc, ih]
    | false => simp
theorem sub_len {l : List Nat} {i j : Nat} (h : j ≤ l.length) : (sub l i j).length = j - i := by
  unfold sub
  rw [List.length_take, List.length_drop]
  omega
theorem digit_of {a : List Nat} (h : a.all isDig = true) : NumText.AllDigits a := fun c hc => by
  have z := List.all_eq_true.mp h c hc
  unfold isDig at z
  rw [Bool.and_eq_true, decide_eq_true_eq, decide_eq_true_eq] at z
  exact z
theorem int_pos {a : List Nat} (h : a.all isDig = true) (hne : a ≠ []) (hl : a.length ≤ 4300) : ∃ n, intText? (ofL a) = some n :=
  ⟨_, intText_digits (x := ofL a) (digit_of h) hne (by show a.toArray.size ≤ _; rw [List.size_toArray]; exact hl)⟩
theorem pre1 {c : Nat} {l : List Nat} {i : Nat} : pre [c] l i = decide (l[i]? = some c) := by
  unfold pre
  by_cases h : i < l.length
  · rw [List.drop_eq_getElem_cons h, List.getElem?_eq_getElem h]
    show decide ([l[i]] = [c]) = decide (some l[i] = some c)
    simp
  · rw [List.drop_of_length_le (by omega), List.getElem?_eq_none (by omega)]
    simp
theorem one_eq {c d : Nat} {x : Str} (h : cs x = [d]) : decide (({ cps := #[c] } : Str) = x) = decide (c = d) := by
  rw [Bool.eq_iff_iff, decide_eq_true_eq, decide_eq_true_eq]
  constructor
  · intro e
    rw [← e] at h
    exact List.head_eq_of_cons_eq h
  · intro e
    apply str_eq
    rw [h, e]
/-- a whole number with its sign -/
theorem int_neg {a : List Nat} (h : a.all isDig = true) (hne : a ≠ []) (hl : a.length + 1 ≤ 4300) : ∃ n, intText? (ofL (45 :: a)) = some n :=
  ⟨_, intText_neg (x := ofL (45 :: a)) (cs := a) rfl (digit_of h) hne (by show (List.toArray _).size ≤ _; rw [List.size_toArray, List.length_cons]; exact hl)⟩
theorem int_at {l : List Nat} {i f : Nat} (hf : f = if l[i]? = some 45 then i + 1 else i) (h1 : digs l f ≠ f) (ed : digs l f ≤ l.length) (hl : (sub l i (digs l f)).length ≤ 600) : ∃ n, intText? (ofL (sub l i (digs l f))) = some n := by
  have ha := digs_all (l := l) (i := f)
  have eg := digs_ge (l := l) (i := f)
  have hne : sub l f (digs l f) ≠ [] := fun z => by
    have := congrArg List.length z
    rw [sub_len ed] at this
    simp at this
    omega
  by_cases h : l[i]? = some 45
  · rw [if_pos h] at hf
    subst hf
    have e : sub l i (digs l (i + 1)) = 45 :: sub l (i + 1) (digs l (i + 1)) := by
      unfold sub
      rw [drop_at h, show digs l (i + 1) - i = (digs l (i + 1) - (i + 1)) + 1 by omega]
      rfl
    rw [e]
    rw [e] at hl
    exact int_neg ha hne (by simp at hl; omega)
  · rw [if_neg h] at hf
    subst hf
    exact int_pos ha hne (by omega)
/-- what number_at finds -/
def numAt (l : List Nat) (i : Nat) : Option (PyData × Nat) :=
  let f := if l[i]? = some 45 then i + 1 else i
  if digs l f = f ∨ (l[f]? = some 48 ∧ digs l f - i > 1) then none else some (.int ((intText? (ofL (sub l i (digs l f)))).getD 0), digs l f)
def optP : Option (PyData × Nat) → PyData
  | none => .none
  | some (d, j) => .tuple [d, .int j]
section
variable {P : Program} {w : World} {K : PySem.W.Frag} {mg : Str → Option Value} {base : Heap}
def FNum : DF := fun ds Kk => ∃ (z : Str) (i : Nat), ds = [.str z, .int i] ∧ z.length ≤ 600 ∧ i ≤ z.length ∧ Kk (optP (numAt (cs z) i))
theorem ok_num (T : Tx P K mg) : FnOk P w K mg base CX0 2 T.a_number_at T.fd_number_at ["text", "at"] (spD FNum) := by
  have G_digits_behind := ok_digs (w := w) (base := base) T
  refine Dw.okD T.F_number_at sc_number_at (fun ds Kk h => ?_) (fun cdv A outer s H E ds Kk hr h => ⟨_, _, (pss_cons (ps_set (i := 2) sc_number_at.nd rfl (Or.inl rfl) (pe_op dAddX (pv 1) (pe_callTy dIntOf (by rfl) T.n_int PyProof.Rows.Boot.«int» (pa_cons (pe_bm PySem.F.plainAttrs_str PySem.F.slot_str_startswith PySem.F.type_str_startswith mStarts (pv 0) (pa_cons (pe_glob (v := .str "-") (by rfl) T.m_MINUS ⟨_, rfl⟩) (pa_cons (pv 1) pa_nil))) pa_nil))))
      (pss_cons (ps_set (i := 3) sc_number_at.nd rfl (Or.inl rfl) (pe_call G_digits_behind (hr.mono (by first | decide | omega)) (by rfl) T.m_digits_behind T.F_digits_behind.kp T.b_digits_behind .nil pass0 (pa_cons (pv 0) (pa_cons (pv 2) pa_nil))))
      (pss_cons (ps_if (PW.pt (pw_or (pt_not (pt_chain dLeX dLeX pe_int (pe_op dSub (pv 3) (pv 2)) (pe_glob (v := .int 4000) (by rfl) T.m_MOST_DIGITS ⟨_, rfl⟩))) (pw_or1 (PW.pt (pw_and (pt_cmpR dEq (pe_ix dIx (pv 0) (pv 2) (fun _ _ => rfl)) pe_str (nomark _)) (pw_and1 (pt_cmpR dGt (pe_op dSub (pv 3) (pv 1)) pe_int (nomark _)))))))) (pss_one (ps_ret pe_non)) pss_nil)
      (pss_one (ps_ret (pe_tup (pa_cons (pe_callTy dIntS (by rfl) T.n_int PyProof.Rows.Boot.«int» (pa_cons (pe_slice dSlS (pv 0) (po_some (pv 1)) (po_some (pv 3))) pa_nil)) (pa_cons (pv 3) pa_nil)))))))), inferInstance, ?_⟩)
  · obtain ⟨z, i, rfl, _⟩ := h
    rfl
  obtain ⟨z, i, rfl, hz, hi, k⟩ := h
  have e1 : Txt.startswith3 z (Str.ofString "-") (i : Int) = decide ((cs z)[i]? = some 45) := by
    rw [starts_eq (by decide), show cs (Str.ofString "-") = [45] from by decide +kernel, pre1]
  walk_at "d"
  rw [e1]
  obtain ⟨f, hf⟩ : ∃ f : Nat, f = if (cs z)[i]? = some 45 then i + 1 else i := ⟨_, rfl⟩
  have ef : ((i : Int) + if decide ((cs z)[i]? = some 45) = true then 1 else 0) = (f : Int) := by
    rw [hf]
    by_cases h : (cs z)[i]? = some 45
    · rw [if_pos (decide_eq_true h), if_pos h]
      rfl
    · rw [if_neg (by rw [decide_eq_false h]; decide), if_neg h]
      omega
  have fl : f ≤ z.length ∧ i ≤ f ∧ f ≤ i + 1 := by
    rw [hf]
    split
    · rename_i h
      have := (List.getElem?_eq_some_iff.mp h).1
      rw [len_cs] at this
      omega
    · omega
  rw [ef]
  have ed := digs_le (l := cs z) (i := f) (by rw [len_cs]; exact fl.1)
  have eg := digs_ge (l := cs z) (i := f)
  rw [len_cs] at ed
  refine ⟨z, f, rfl, hz, fl.1, ?_⟩
  unfold numAt at k
  simp only [← hf] at k
  simp only
  by_cases h1 : digs (cs z) f = f
  · rw [if_neg (by simp; omega)]
    rw [if_pos (.inl h1)] at k
    exact k
  rw [if_pos (by simp; omega), if_neg (by simp; omega)]
  have hfl : f < z.length := by omega
  have hc : (cs z)[f]? = some ((cs z)[f]'(by rw [len_cs]; exact hfl)) := List.getElem?_eq_getElem _
  generalize (cs z)[f]'(by rw [len_cs]; exact hfl) = c at hc
  refine ⟨by omega, c, at_nat hc, ?_⟩
  have e0 : decide (({ cps := #[c] } : Str) = Str.ofString "0") = decide (c = 48) := one_eq (by decide +kernel)
  rw [e0]
  have fin : ¬ (digs (cs z) f = f ∨ ((cs z)[f]? = some 48 ∧ digs (cs z) f - i > 1)) → z.length ≤ 16777216 ∧ ∃ n, intText? (cutS z (some (i : Int)) (some ((digs (cs z) f : Nat) : Int))) = some n ∧ (cutS z (some (i : Int)) (some ((digs (cs z) f : Nat) : Int))).length ≤ 640 ∧ Kk (.tuple [.int n, .int ((digs (cs z) f : Nat) : Int)]) := fun hn => by
    rw [if_neg hn] at k
    rw [cut_eq]
    have hl : (sub (cs z) i (digs (cs z) f)).length ≤ 600 := by rw [sub_len (by rw [len_cs]; exact ed)]; omega
    obtain ⟨n, hn'⟩ : ∃ n, intText? (ofL (sub (cs z) i (digs (cs z) f))) = some n := int_at (by rw [hf]) h1 (by rw [len_cs]; exact ed) hl
    rw [hn'] at k
    exact ⟨by omega, n, hn', by show (List.toArray _).size ≤ _; rw [List.size_toArray]; omega, k⟩
  by_cases h0 : c = 48
  · rw [if_pos (decide_eq_true h0)]
    by_cases h2 : digs (cs z) f - i > 1
    · rw [if_pos (by simp; omega)]
      rw [if_pos (.inr ⟨by rw [hc, h0], h2⟩)] at k
      exact k
    · rw [if_neg (by simp; omega)]
      exact fin (fun z => z.elim h1 fun y => h2 y.2)
  · rw [if_neg (by simp [h0])]
    refine fin (fun z => z.elim h1 fun y => h0 ?_)
    have := y.1
    rw [hc] at this
    exact Option.some.inj this
end
end K88
end
section
--@@ gend
set_option Elab.async false
set_option linter.all false
set_option maxRecDepth 100000
set_option maxHeartbeats 4000000
namespace K88
open PySem PySem.Spec PyProof.Rows L2 Tg Dw
local macro_rules | `(tactic| walk_at "d") => `(tactic| simp only [DVar, DCon, DLock, DLockV, DCons, DNil, DOp, DOpN, DUn, DTup, DLst, DCB, DCBN, DMt, DMtN, isB, DB, DNot, DAnd, DOr, DAndV, DOrV, DNotV, DIf, DChain, DNext, DSeq, DIfS, DRet, DDrop, DSet, DSetN, GName, GNil, GCons, GTup, DAsgG, DPar, isL, isT, isS, isI, IList, ITup, IStr, IRng1, IRng2, DFor, DLc, DYes, RInt, RIntC, RStr, RCatS, eqC, REq, RNe, isNone, RIsN, RNotN, RInS, RIx, RSlS, ONone, OSome, DSl, DSlN, on1, on2, RLen, RIntOf, RIntS, RStrI, RAbs, RMin2, RMax2, RAll, RAny, NList, RTuple, RReprD, MStarts, MFind, MJoin, tyB, DIs, DIs3, DApp, DCall, DCallX, DRaise, startD, RAdd, RLe, RInX, NCat, RMulX, NSlL, DFzS, DAug, DCallP, startP, wipeD, IItems, DDGet, DDIn, NSortedD, NListD, MDict, DCBM, DParND, DParNN, DPar3N, DPar3, GPut, DPeek, DNe0, DPop, DLenO, flD, inF, eqF, List.length_cons, List.length_nil, List.map_cons, List.map_nil, List.replicate_succ, List.replicate_zero, List.cons_append, List.nil_append, List.getElem?_cons_zero, List.getElem?_cons_succ, List.set_cons_zero, List.set_cons_succ, Nat.reduceAdd, Nat.reduceSub, Nat.zero_add, Bool.not_true, Bool.not_false, Bool.false_eq_true, if_true, if_false, reduceIte, reduceCtorEq, beq_self_eq_true, Bool.true_or, Bool.or_true, Bool.false_or, Bool.or_false, String.reduceBEq, Option.some.injEq, false_and, and_false, exists_const, true_and, and_true, PyData.str.injEq, exists_eq', exists_eq_left', Nat.reduceLeDiff, DV.l.injEq, DV.m.injEq, DV.pot.injEq, List.all_cons, List.all_nil, List.any_cons, List.any_nil, Bool.and_self, Bool.and_true, Bool.true_and])
/-- the signs behind a quote up to the next one, and how many signs that takes -/
def strG : List Nat → Option (List Nat × Nat)
  | [] => none
  | 34 :: _ => some ([], 1)
  | [92] => none
  | 92 :: c :: r => if c = 34 ∨ c = 92 then (strG r).map fun p => (c :: p.1, p.2 + 2) else none
  | c :: r => (strG r).map fun p => (c :: p.1, p.2 + 1)
theorem joinL_one : ∀ l : List Nat, TL.joinL [] (l.map fun c => [c]) = l
  | [] => rfl
  | [c] => rfl
  | c :: d :: r => by
    have ih := joinL_one (d :: r)
    show [c] ++ ([] ++ TL.joinL [] ((d :: r).map fun c => [c])) = _
    rw [ih]
    rfl
theorem join_chars {l : List Nat} : Txt.join (Str.ofString "") (l.map fun c => ⟨#[c]⟩) = ofL l := by
  apply str_eq
  rw [TL.join_eq]
  show TL.tl (Str.join _ _) = l
  rw [TL.tl_join, show TL.tl (Str.ofString "") = [] from by decide +kernel, List.map_map]
  exact joinL_one l
def strAt (l : List Nat) (i : Nat) : Option (PyData × Nat) := (strG (l.drop (i + 1))).map fun p => (.str (ofL p.1), i + 1 + p.2)
section
variable {P : Program} {w : World} {K : PySem.W.Frag} {mg : Str → Option Value} {base : Heap}
def FStr : DF := fun ds Kk => ∃ (z : Str) (i : Nat), ds = [.str z, .int i] ∧ z.length ≤ 600 ∧ i < z.length ∧ Kk (optP (strAt (cs z) i))
theorem ok_str (T : Tx P K mg) : FnOk P w K mg base CX0 1 T.a_string_at T.fd_string_at ["text", "at"] (spD FStr) := by
  refine Dw.okD T.F_string_at sc_string_at (fun ds Kk h => ?_) (fun cdv A outer s H E ds Kk hr h => ⟨_, _, (pss_cons (ps_par (i := 2) (j := 1) (by rfl) sc_string_at.nd rfl rfl (by decide) rfl rfl (pa_cons (pe_lst pa_nil) (pa_cons (pe_op dAddX (pv 1) pe_int) pa_nil)) (by rfl))
      (pss_cons (ps_while PassesOwn.never (PW.pt (pw_and (pt_cmpR dLt (pv 1) (pe_callB dLen (by rfl) T.n_len PyProof.Rows.Boot.«len» (pa_cons (pv 0) pa_nil)) (nomark _)) (pw_and1 (pt_cmpR dNe (pe_ix dIx (pv 0) (pv 1) (fun _ _ => rfl)) (pe_glob (v := .str "\"") (by rfl) T.m_QUOTE ⟨_, rfl⟩) (nomark _))))) (pss_cons (ps_if (pt_cmpR dEq (pe_ix dIx (pv 0) (pv 1) (fun _ _ => rfl)) (pe_glob (v := .str "\\") (by rfl) T.m_STROKE ⟨_, rfl⟩) (nomark _)) (pss_cons (ps_aug (i := 1) sc_string_at.nd rfl (Or.inl rfl) pe_int ipAdd)
      (pss_one (ps_if (pt_cmpR dNotInX (pe_slice dSlS (pv 0) (po_some (pv 1)) (po_some (pe_op dAddX (pv 1) pe_int))) (pe_tup (pa_cons (pe_glob (v := .str "\"") (by rfl) T.m_QUOTE ⟨_, rfl⟩) (pa_cons (pe_glob (v := .str "\\") (by rfl) T.m_STROKE ⟨_, rfl⟩) pa_nil))) (by rfl)) (pss_one (ps_ret pe_non)) pss_nil))) pss_nil)
      (pss_cons (ps_expr (pe_bm PySem.F.plainAttrs_list PySem.F.slot_list_append PySem.F.type_list_append mt_append (pv 2) (pa_cons (pe_ix dIx (pv 0) (pv 1) (fun _ _ => rfl)) pa_nil)))
      (pss_one (ps_aug (i := 1) sc_string_at.nd rfl (Or.inl rfl) pe_int ipAdd)))))
      (pss_one (ps_ret (pe_ifExp (pt_cmpR dLt (pv 1) (pe_callB dLen (by rfl) T.n_len PyProof.Rows.Boot.«len» (pa_cons (pv 0) pa_nil)) (nomark _)) (pe_tup (pa_cons (pe_bm PySem.F.plainAttrs_str PySem.F.slot_str_join PySem.F.type_str_join mJoin pe_str (pa_cons (pe_fz (pv 2)) pa_nil)) (pa_cons (pe_op dAddX (pv 1) pe_int) pa_nil))) pe_non))))), inferInstance, ?_⟩)
  · obtain ⟨z, i, rfl, _⟩ := h
    rfl
  obtain ⟨z, i, rfl, hz, hi, k⟩ := h
  walk_at "d"
  refine DWhile.by_ (fun n ρ => ∃ (j : Nat) (acc : List Nat), ρ = [some (.d (.str z)), some (.d (.int j)), some (.l (acc.map fun c => .str ⟨#[c]⟩))] ∧ i + 1 ≤ j ∧ j ≤ z.length ∧ n = z.length - j ∧ acc.length ≤ j ∧
    strG ((cs z).drop (i + 1)) = (strG ((cs z).drop j)).map fun p => (acc ++ p.1, j - (i + 1) + p.2)) _ ⟨i + 1, [], rfl, Nat.le_refl _, by omega, rfl, Nat.zero_le _, ?_⟩ ?_
  · simp
  rintro n ρ ⟨j, acc, rfl, hij, hj, rfl, ha, e⟩
  walk_at "d"
  have hm : ∀ c : Nat, (acc.map fun c => PyData.str ⟨#[c]⟩) ++ [.str ⟨#[c]⟩] = (acc ++ [c]).map fun c => PyData.str ⟨#[c]⟩ := fun c => by simp
  refine ⟨by omega, ?_⟩
  by_cases h : j < z.length
  · rw [if_pos (by simp; omega)]
    have hc : (cs z)[j]? = some ((cs z)[j]'(by rw [len_cs]; exact h)) := List.getElem?_eq_getElem _
    generalize (cs z)[j]'(by rw [len_cs]; exact h) = c at hc
    refine ⟨by omega, c, at_nat hc, ?_⟩
    rw [one_eq (d := 34) (by decide +kernel)]
    by_cases h34 : c = 34
    · subst h34
      rw [drop_at hc] at e
      simp only [strG, Option.map_some, List.append_nil] at e
      rw [if_neg (by simp)]
      refine ⟨by omega, ?_⟩
      rw [if_pos (by simp; omega)]
      refine ⟨acc.map fun c => ⟨#[c]⟩, by simp, ?_, ?_⟩
      · simp only [List.map_map, List.length_map]
        have : (acc.map (Str.length ∘ fun c => (⟨#[c]⟩ : Str))).sum = acc.length := by
          clear e hm ha
          induction acc with
          | nil => rfl
          | cons a r ih => simp [ih, Str.length]; omega
        rw [this]
        have e0 : (Str.ofString "").length = 0 := by decide
        rw [e0]
        omega
      · unfold strAt at k
        rw [e] at k
        simp only [Option.map_some, optP] at k
        rw [join_chars]
        have e1 : i + 1 + (j - (i + 1) + 1) = j + 1 := by omega
        rw [e1] at k
        exact k
    · rw [if_pos (by simp [h34])]
      refine ⟨by omega, c, at_nat hc, ?_⟩
      rw [one_eq (d := 92) (by decide +kernel)]
      by_cases h92 : c = 92
      · subst h92
        rw [if_pos (by simp)]
        refine ⟨by omega, ?_⟩
        have ec : cutS z (some ((j : Int) + 1)) (some ((j : Int) + 1 + 1)) = ofL (sub (cs z) (j + 1) (j + 1 + 1)) := cut_eq (i := j + 1) (j := j + 1 + 1)
        rw [ec]
        by_cases h2 : j + 1 < z.length
        · have hd : (cs z)[j + 1]? = some ((cs z)[j + 1]'(by rw [len_cs]; exact h2)) := List.getElem?_eq_getElem _
          generalize (cs z)[j + 1]'(by rw [len_cs]; exact h2) = d at hd
          have es : sub (cs z) (j + 1) (j + 1 + 1) = [d] := by
            unfold sub
            rw [drop_at hd, show j + 1 + 1 - (j + 1) = 1 by omega]
            rfl
          rw [es, drop_at hc, drop_at hd] at *
          rw [strG] at e
          have eq34 : (Str.ofString "\"" == ofL [d]) = decide (d = 34) := by
            rw [Bool.eq_iff_iff, beq_iff_eq, decide_eq_true_eq]
            constructor
            · intro q
              have := congrArg cs q
              rw [show cs (Str.ofString "\"") = [34] from by decide +kernel] at this
              exact (List.head_eq_of_cons_eq this).symm
            · intro q
              apply str_eq
              rw [q]
              decide +kernel
          have eq92 : (Str.ofString "\\" == ofL [d]) = decide (d = 92) := by
            rw [Bool.eq_iff_iff, beq_iff_eq, decide_eq_true_eq]
            constructor
            · intro q
              have := congrArg cs q
              rw [show cs (Str.ofString "\\") = [92] from by decide +kernel] at this
              exact (List.head_eq_of_cons_eq this).symm
            · intro q
              apply str_eq
              rw [q]
              decide +kernel
          rw [eq34, eq92]
          by_cases hq : d = 34 ∨ d = 92
          · rw [if_pos hq] at e
            rw [if_neg (by rcases hq with hq | hq <;> simp [hq])]
            refine ⟨by omega, d, at_nat (i := j + 1) hd, by rw [List.length_map]; omega, z.length - (j + 2), by omega, j + 2, acc ++ [d], by rw [hm]; rfl, by omega, by omega, rfl, by simp; omega, ?_⟩
            rw [e]
            rw [Option.map_map]
            congr 1
            funext p
            simp only [Function.comp, List.append_assoc, List.cons_append, List.nil_append]
            congr 1
            omega
          · rw [if_neg hq] at e
            rw [if_pos (by simp only [not_or] at hq; simp [hq.1, hq.2])]
            unfold strAt at k
            rw [e] at k
            exact k
        · have es : sub (cs z) (j + 1) (j + 1 + 1) = [] := by
            unfold sub
            rw [List.drop_of_length_le (by rw [len_cs]; omega), List.take_nil]
          rw [es]
          have ed : (cs z).drop (j + 1) = [] := List.drop_of_length_le (by rw [len_cs]; omega)
          rw [drop_at hc, ed] at e
          rw [if_pos (by decide +kernel)]
          unfold strAt at k
          rw [e] at k
          exact k
      · rw [if_neg (by simp [h92])]
        rw [drop_at hc] at e
        have eg : strG (c :: (cs z).drop (j + 1)) = (strG ((cs z).drop (j + 1))).map fun p => (c :: p.1, p.2 + 1) := by
          rw [strG]
          · intro q
            exact h34 q
          · intro q
            exact absurd q h92
          · intro d r q
            exact absurd q h92
        rw [eg] at e
        refine ⟨by omega, c, at_nat hc, by rw [List.length_map]; omega, z.length - (j + 1), by omega, j + 1, acc ++ [c], by rw [hm]; rfl, by omega, by omega, rfl, by simp; omega, ?_⟩
        rw [e, Option.map_map]
        congr 1
        funext p
        simp only [Function.comp, List.append_assoc, List.cons_append, List.nil_append]
        congr 1
        omega
  · rw [if_neg (by simp; omega)]
    have ed : (cs z).drop j = [] := List.drop_of_length_le (by rw [len_cs]; omega)
    rw [ed] at e
    rw [if_neg (by simp; omega)]
    unfold strAt at k
    rw [e] at k
    exact ⟨by omega, k⟩
end
end K88
end
section
--@@ gend
set_option Elab.async false
set_option linter.all false
set_option maxRecDepth 100000
set_option maxHeartbeats 4000000
namespace K88
open PySem PySem.Spec PyProof.Rows L2 Tg Dw
local macro_rules | `(tactic| walk_at "d") => `(tactic| simp only [DVar, DCon, DLock, DLockV, DCons, DNil, DOp, DOpN, DUn, DTup, DLst, DCB, DCBN, DMt, DMtN, isB, DB, DNot, DAnd, DOr, DAndV, DOrV, DNotV, DIf, DChain, DNext, DSeq, DIfS, DRet, DDrop, DSet, DSetN, GName, GNil, GCons, GTup, DAsgG, DPar, isL, isT, isS, isI, IList, ITup, IStr, IRng1, IRng2, DFor, DLc, DYes, RInt, RIntC, RStr, RCatS, eqC, REq, RNe, isNone, RIsN, RNotN, RInS, RIx, RSlS, ONone, OSome, DSl, DSlN, on1, on2, RLen, RIntOf, RIntS, RStrI, RAbs, RMin2, RMax2, RAll, RAny, NList, RTuple, RReprD, MStarts, MFind, MJoin, tyB, DIs, DIs3, DApp, DCall, DCallX, DRaise, startD, RAdd, RLe, RInX, NCat, RMulX, NSlL, DFzS, DAug, DCallP, startP, wipeD, IItems, DDGet, DDIn, NSortedD, NListD, MDict, DCBM, DParND, DParNN, DPar3N, DPar3, GPut, DPeek, DNe0, DPop, DLenO, flD, inF, eqF, List.length_cons, List.length_nil, List.map_cons, List.map_nil, List.replicate_succ, List.replicate_zero, List.cons_append, List.nil_append, List.getElem?_cons_zero, List.getElem?_cons_succ, List.set_cons_zero, List.set_cons_succ, Nat.reduceAdd, Nat.reduceSub, Nat.zero_add, Bool.not_true, Bool.not_false, Bool.false_eq_true, if_true, if_false, reduceIte, reduceCtorEq, beq_self_eq_true, Bool.true_or, Bool.or_true, Bool.false_or, Bool.or_false, String.reduceBEq, Option.some.injEq, false_and, and_false, exists_const, true_and, and_true, PyData.str.injEq, exists_eq', exists_eq_left', Nat.reduceLeDiff, DV.l.injEq, DV.m.injEq, DV.pot.injEq, List.all_cons, List.all_nil, List.any_cons, List.any_nil, Bool.and_self, Bool.and_true, Bool.true_and])
/-! ### what is read -/
abbrev PF := Nat → Option (PyData × Nat)
def lets (l : List Nat) (i : Nat) : Nat := i + ((l.drop i).takeWhile low).length
def lstG (f : PF) (l : List Nat) : Nat → Nat → List PyData → Option (PyData × Nat)
  | 0, _, _ => none
  | m + 1, i, acc => match f i with
    | none => none
    | some (d, j) => if pre [44, 32] l j = true then lstG f l m (j + 2) (acc ++ [d]) else if l[j]? = some 93 then some (.list (acc ++ [d]), j + 1) else none
def lastS (acc : List (Str × PyData)) : Str := match acc.getLast? with
  | none => ""
  | some p => p.1
def recG (f : PF) (l : List Nat) : Nat → Nat → List (Str × PyData) → Option (PyData × Nat)
  | 0, _, _ => none
  | m + 1, i, acc =>
    if (1 ≤ lets l i - i ∧ lets l i - i ≤ 8) ∧ pre [58, 32] l (lets l i) = true ∧ (lastS acc).cps.toList < sub l i (lets l i) then
      match f (lets l i + 2) with
      | none => none
      | some (d, j) => if pre [44, 32] l j = true then recG f l m (j + 2) (acc ++ [(ofL (sub l i (lets l i)), d)]) else if l[j]? = some 125 then some (.dict (strP (acc ++ [(ofL (sub l i (lets l i)), d)])), j + 1) else none
    else none
def lstAt (f : PF) (l : List Nat) (i : Nat) : Option (PyData × Nat) := if l[i + 1]? = some 93 then some (.list [], i + 2) else lstG f l (l.length + 1) (i + 1) []
def recAt (f : PF) (l : List Nat) (i : Nat) : Option (PyData × Nat) := if l[i + 1]? = some 125 then some (.dict [], i + 2) else recG f l (l.length + 1) (i + 1) []
def partN : Nat → List Nat → PF
  | 0, _, _ => none
  | n + 1, l, i =>
    if l[i]? = some 34 then strAt l i
    else if l[i]? = some 91 then lstAt (partN n l) l i
    else if l[i]? = some 123 then recAt (partN n l) l i
    else if pre [121, 101, 115] l i = true then some (.bool true, i + 3)
    else if pre [110, 111] l i = true then some (.bool false, i + 2)
    else if l[i]? = some 45 ∧ ¬ (∃ c, l[i + 1]? = some c ∧ isDig c = true) then some (.none, i + 1)
    else numAt l i
/-- brackets from i on -/
def isBr (c : Nat) : Bool := decide (c = 91) || decide (c = 123)
def br (l : List Nat) (i : Nat) : Nat := ((l.drop i).filter isBr).length
theorem br_mono {l : List Nat} {i j : Nat} (h : i ≤ j) : br l j ≤ br l i := by
  unfold br
  have e : l.drop j = (l.drop i).drop (j - i) := by rw [List.drop_drop]; congr 1; omega
  rw [e]
  exact ((List.drop_sublist _ _).filter _).length_le
theorem br_next {l : List Nat} {i c : Nat} (h : l[i]? = some c) (hb : isBr c = true) : br l (i + 1) + 1 = br l i := by
  unfold br
  rw [drop_at h, List.filter_cons_of_pos hb, List.length_cons]
/-! ### it goes on -/
def Goes (f : PF) (l : List Nat) : Prop := ∀ i d j, f i = some (d, j) → i < j ∧ j ≤ l.length
theorem pre_len {p l : List Nat} {i : Nat} (h : pre p l i = true) (hp : 0 < p.length) : i + p.length ≤ l.length := by
  unfold pre at h
  have := congrArg List.length (of_decide_eq_true h)
  rw [List.length_take, List.length_drop] at this
  omega
theorem strG_le : ∀ {l s : List Nat} {n : Nat}, strG l = some (s, n) → n ≤ l.length ∧ 1 ≤ n := by
  intro l
  fun_induction strG l with
  | case1 => intro s n h; cases h
  | case2 r =>
    intro s n h
    cases h
    simp
  | case3 => intro s n h; cases h
  | case4 c r hc ih =>
    intro s n h
    cases q : strG r with
    | none => rw [q] at h; cases h
    | some p =>
      rw [q] at h
      obtain ⟨p1, p2⟩ := p
      have := ih q
      cases h
      simp only [List.length_cons]
      omega
  | case5 c r hc => intro s n h; cases h
  | case6 c r h1 h2 h3 ih =>
    intro s n h
    cases q : strG r with
    | none => rw [q] at h; cases h
    | some p =>
      rw [q] at h
      obtain ⟨p1, p2⟩ := p
      have := ih q
      cases h
      simp only [List.length_cons]
      omega
theorem str_goes {l : List Nat} : Goes (strAt l) l := by
  intro i d j h
  unfold strAt at h
  cases q : strG (l.drop (i + 1)) with
  | none => rw [q] at h; cases h
  | some p =>
    rw [q] at h
    obtain ⟨p1, p2⟩ := p
    have := strG_le q
    rw [List.length_drop] at this
    cases h
    omega
theorem num_goes {l : List Nat} {i : Nat} {d : PyData} {j : Nat} (h : numAt l i = some (d, j)) : i < j ∧ j ≤ l.length := by
  have hi : i ≤ l.length := by
    by_cases q : i ≤ l.length
    · exact q
    · exfalso
      unfold numAt at h
      rw [List.getElem?_eq_none (by omega)] at h
      simp only [reduceCtorEq, if_false] at h
      rw [digs_end (by omega)] at h
      simp at h
  unfold numAt at h
  simp only at h
  generalize hf : (if l[i]? = some 45 then i + 1 else i) = f at h
  have fl : f ≤ l.length ∧ i ≤ f := by
    rw [← hf]
    split
    · rename_i h
      have := (List.getElem?_eq_some_iff.mp h).1
      omega
    · omega
  have h1 := digs_le (l := l) fl.1
  have h2 := digs_ge (l := l) (i := f)
  split at h
  · cases h
  · rename_i hn
    cases h
    have : digs l f ≠ f := fun z => hn (.inl z)
    omega
theorem lst_goes {f : PF} {l : List Nat} (hf : Goes f l) : ∀ {m i : Nat} {acc : List PyData} {d : PyData} {j : Nat}, lstG f l m i acc = some (d, j) → i < j ∧ j ≤ l.length
  | 0, i, acc, d, j, h => by cases h
  | m + 1, i, acc, d, j, h => by
    unfold lstG at h
    split at h
    · cases h
    · rename_i d1 j1 h1
      have g := hf _ _ _ h1
      split at h
      · rename_i hp
        have := lst_goes hf h
        omega
      · split at h
        · rename_i hq
          have := (List.getElem?_eq_some_iff.mp hq).1
          cases h
          omega
        · cases h
theorem lets_ge {l : List Nat} {i : Nat} : i ≤ lets l i := Nat.le_add_right _ _
theorem rec_goes {f : PF} {l : List Nat} (hf : Goes f l) : ∀ {m i : Nat} {acc : List (Str × PyData)} {d : PyData} {j : Nat}, recG f l m i acc = some (d, j) → i < j ∧ j ≤ l.length
  | 0, i, acc, d, j, h => by cases h
  | m + 1, i, acc, d, j, h => by
    unfold recG at h
    have lg := lets_ge (l := l) (i := i)
    split at h
    · split at h
      · cases h
      · rename_i d1 j1 h1
        have g := hf _ _ _ h1
        split at h
        · rename_i hp
          have := rec_goes hf h
          omega
        · split at h
          · rename_i hq
            have := (List.getElem?_eq_some_iff.mp hq).1
            cases h
            omega
          · cases h
    · cases h
theorem part_goes : ∀ (n : Nat) (l : List Nat), Goes (partN n l) l := by
  intro n
  induction n with
  | zero => intro l i d j h; cases h
  | succ n ih =>
    intro l i d j h
    unfold partN at h
    split at h
    · exact str_goes i d j h
    split at h
    · rename_i h1
      unfold lstAt at h
      split at h
      · rename_i h2
        have := (List.getElem?_eq_some_iff.mp h2).1
        cases h
        omega
      · have := lst_goes (ih l) h
        omega
    split at h
    · rename_i h1
      unfold recAt at h
      split at h
      · rename_i h2
        have := (List.getElem?_eq_some_iff.mp h2).1
        cases h
        omega
      · have := rec_goes (ih l) h
        omega
    split at h
    · rename_i h1
      have := pre_len h1 (by decide)
      simp only [List.length_cons, List.length_nil] at this
      cases h
      omega
    split at h
    · rename_i h1
      have := pre_len h1 (by decide)
      simp only [List.length_cons, List.length_nil] at this
      cases h
      omega
    split at h
    · rename_i h1
      have := (List.getElem?_eq_some_iff.mp h1.1).1
      cases h
      omega
    exact num_goes h
/-! ### list_at -/
theorem cut2 {z : Str} {j : Nat} : decide (cutS z (some (j : Int)) (some ((j : Int) + 2)) = Str.ofString ", ") = pre [44, 32] (cs z) j := by
  have e : cutS z (some (j : Int)) (some ((j : Int) + 2)) = ofL (sub (cs z) j (j + 2)) := cut_eq (i := j) (j := j + 2)
  rw [e]
  unfold pre sub
  rw [show j + 2 - j = 2 by omega, Bool.eq_iff_iff, decide_eq_true_eq, decide_eq_true_eq]
  constructor
  · intro q
    have := congrArg cs q
    rw [show cs (Str.ofString ", ") = [44, 32] from by decide +kernel] at this
    exact this
  · intro q
    apply str_eq
    rw [show cs (Str.ofString ", ") = [44, 32] from by decide +kernel]
    exact q
section
variable {P : Program} {w : World} {K : PySem.W.Frag} {mg : Str → Option Value} {base : Heap}
def FPart (n : Nat) : DF := fun ds Kk => ∃ (z : Str) (i : Nat), ds = [.str z, .int i] ∧ z.length ≤ 600 ∧ i ≤ z.length ∧ br (cs z) i < n ∧ Kk (optP (partN n (cs z) i))
def FLst (n : Nat) : DF := fun ds Kk => ∃ (z : Str) (i : Nat), ds = [.str z, .int i] ∧ z.length ≤ 600 ∧ i < z.length ∧ br (cs z) (i + 1) < n ∧ Kk (optP (lstAt (partN n (cs z)) (cs z) i))
theorem ok_lst (T : Tx P K mg) {n k : Nat} (G_part_at : FnOk P w K mg base CX0 k T.a_part_at T.fd_part_at ["text", "at"] (spD (FPart n))) : FnOk P w K mg base CX0 (k + 1) T.a_list_at T.fd_list_at ["text", "at"] (spD (FLst n)) := by
  refine Dw.okD T.F_list_at sc_list_at (fun ds Kk h => ?_) (fun cdv A outer s H E ds Kk hr h => ⟨_, _, (pss_cons (ps_if (pt_val (pe_bm PySem.F.plainAttrs_str PySem.F.slot_str_startswith PySem.F.type_str_startswith mStarts (pv 0) (pa_cons pe_str (pa_cons (pe_op dAddX (pv 1) pe_int) pa_nil)))) (pss_one (ps_ret (pe_tup (pa_cons (pe_fz (pe_lst pa_nil)) (pa_cons (pe_op dAddX (pv 1) (pe_glob (v := .int 2) (by rfl) T.m_PAIR ⟨_, rfl⟩)) pa_nil))))) pss_nil)
      (pss_cons (ps_par (i := 2) (j := 3) (by rfl) sc_list_at.nd rfl rfl (by decide) rfl rfl (pa_cons (pe_lst pa_nil) (pa_cons (pe_glob (v := .str ", ") (by rfl) T.m_PARTED ⟨_, rfl⟩) pa_nil)) (by rfl))
      (pss_cons (ps_aug (i := 1) sc_list_at.nd rfl (Or.inl rfl) pe_int ipAdd)
      (pss_cons (ps_while PassesOwn.never (pt_cmpR dEq (pv 3) (pe_glob (v := .str ", ") (by rfl) T.m_PARTED ⟨_, rfl⟩) (nomark _)) (pss_cons (ps_set (i := 4) sc_list_at.nd rfl (Or.inl rfl) (pe_call G_part_at (hr.mono (by first | decide | omega)) (by rfl) T.m_part_at T.F_part_at.kp T.b_part_at .nil pass0 (pa_cons (pv 0) (pa_cons (pv 1) pa_nil))))
      (pss_cons (ps_if (pt_cmpR dIsN (pv 4) pe_non (nomark _)) (pss_one (ps_ret pe_non)) pss_nil)
      (pss_cons (ps_expr (pe_bm PySem.F.plainAttrs_list PySem.F.slot_list_append PySem.F.type_list_append mt_append (pv 2) (pa_cons (pe_ix dIx (pv 4) pe_int (fun _ _ => rfl)) pa_nil)))
      (pss_cons (ps_set (i := 1) sc_list_at.nd rfl (Or.inl rfl) (pe_ix dIx (pv 4) pe_int (fun _ _ => rfl)))
      (pss_cons (ps_set (i := 3) sc_list_at.nd rfl (Or.inl rfl) (pe_slice dSlS (pv 0) (po_some (pv 1)) (po_some (pe_op dAddX (pv 1) (pe_callB dLen (by rfl) T.n_len PyProof.Rows.Boot.«len» (pa_cons (pe_glob (v := .str ", ") (by rfl) T.m_PARTED ⟨_, rfl⟩) pa_nil))))))
      (pss_one (ps_aug (i := 1) sc_list_at.nd rfl (Or.inl rfl) (pe_ifExp (pt_cmpR dEq (pv 3) (pe_glob (v := .str ", ") (by rfl) T.m_PARTED ⟨_, rfl⟩) (nomark _)) (pe_callB dLen (by rfl) T.n_len PyProof.Rows.Boot.«len» (pa_cons (pe_glob (v := .str ", ") (by rfl) T.m_PARTED ⟨_, rfl⟩) pa_nil)) pe_int) ipAdd))))))))
      (pss_one (ps_ret (pe_ifExp (pt_val (pe_bm PySem.F.plainAttrs_str PySem.F.slot_str_startswith PySem.F.type_str_startswith mStarts (pv 0) (pa_cons pe_str (pa_cons (pv 1) pa_nil)))) (pe_tup (pa_cons (pe_fz (pv 2)) (pa_cons (pe_op dAddX (pv 1) pe_int) pa_nil))) pe_non))))))), inferInstance, ?_⟩)
  · obtain ⟨z, i, rfl, _⟩ := h
    rfl
  obtain ⟨z, i, rfl, hz, hi, hb, k⟩ := h
  have e1 : ∀ j : Nat, Txt.startswith3 z (Str.ofString "]") (j : Int) = decide ((cs z)[j]? = some 93) := fun j => by
    rw [starts_eq (by decide), show cs (Str.ofString "]") = [93] from by decide +kernel, pre1]
  walk_at "d"
  rw [show ((i : Int) + 1) = ((i + 1 : Nat) : Int) from rfl, e1]
  by_cases h0 : (cs z)[i + 1]? = some 93
  · rw [if_pos (decide_eq_true h0)]
    unfold lstAt at k
    rw [if_pos h0] at k
    exact k
  rw [if_neg (by simp only [decide_eq_true_eq]; exact h0)]
  unfold lstAt at k
  rw [if_neg h0] at k
  generalize hR : lstG (partN n (cs z)) (cs z) ((cs z).length + 1) (i + 1) [] = R at k
  refine DWhile.by_ (fun t ρ => ∃ (j : Nat) (acc : List PyData) (x4 : Option DV), i + 1 ≤ j ∧ j ≤ z.length ∧ acc.length ≤ j ∧
    ((ρ = [some (.d (.str z)), some (.d (.int j)), some (.l acc), some (.d (.str (Str.ofString ", "))), x4] ∧ (∃ m, z.length - j < m ∧ R = lstG (partN n (cs z)) (cs z) m j acc) ∧ t = z.length - j + 1) ∨
    (∃ sg, ρ = [some (.d (.str z)), some (.d (.int j)), some (.l acc), some (.d (.str sg)), x4] ∧ decide (sg = Str.ofString ", ") = false ∧ t = 0 ∧ R = if (cs z)[j]? = some 93 then some (.list acc, j + 1) else none))) _
    ⟨i + 1, [], none, Nat.le_refl _, by omega, Nat.zero_le _, .inl ⟨rfl, ⟨_, by rw [len_cs]; omega, hR.symm⟩, rfl⟩⟩ ?_
  rintro t ρ ⟨j, acc, x4, hij, hj, hl, ⟨rfl, ⟨m, hm, hR⟩, rfl⟩ | ⟨sg, rfl, hsg, rfl, hR⟩⟩
  · walk_at "d"
    rw [if_pos (by simp)]
    refine ⟨z, j, rfl, hz, hj, Nat.lt_of_le_of_lt (br_mono hij) hb, ?_⟩
    cases m with
    | zero => omega
    | succ m =>
      unfold lstG at hR
      cases q : partN n (cs z) j with
      | none =>
        rw [q] at hR
        simp only at hR
        rw [hR] at k
        simp only [optP, isNone]
        exact k
      | some p =>
        obtain ⟨d, e⟩ := p
        rw [q] at hR
        simp only at hR
        have g := part_goes n (cs z) j d e q
        rw [len_cs] at g
        simp only [optP, isNone, Bool.false_eq_true, if_false]
        refine ⟨d, rfl, by omega, .int e, rfl, ?_⟩
        walk_at "d"
        refine ⟨by decide, by omega, ?_⟩
        have e2 : ((e : Int) + ((Str.ofString ", ").length : Nat)) = (e : Int) + 2 := by
          rw [show (Str.ofString ", ").length = 2 by decide]
          rfl
        rw [e2, cut2]
        cases hp : pre [44, 32] (cs z) e with
        | true =>
          rw [hp] at hR
          simp only [if_true] at hR
          have hpl := pre_len hp (by decide)
          simp only [List.length_cons, List.length_nil, len_cs] at hpl
          have hsg : cutS z (some (e : Int)) (some ((e : Int) + 2)) = Str.ofString ", " := of_decide_eq_true (by rw [cut2]; exact hp)
          rw [hsg]
          refine ⟨by decide, z.length - (e + 2) + 1, by omega, e + 2, acc ++ [d], _, by omega, by omega, by simp; omega, .inl ⟨rfl, ⟨m, by omega, hR⟩, rfl⟩⟩
        | false =>
          rw [hp] at hR
          simp only [Bool.false_eq_true, if_false] at hR
          rw [show (e : Int) + 0 = (e : Int) from Int.add_zero _]
          exact ⟨0, by omega, e, acc ++ [d], _, by omega, by omega, by simp; omega, .inr ⟨_, rfl, by rw [cut2]; exact hp, rfl, hR⟩⟩
  · walk_at "d"
    rw [hsg]
    rw [if_neg (by decide)]
    rw [e1]
    by_cases h9 : (cs z)[j]? = some 93
    · rw [if_pos h9] at hR
      rw [hR] at k
      rw [if_pos (decide_eq_true h9)]
      exact k
    · rw [if_neg h9] at hR
      rw [hR] at k
      rw [if_neg (by simp only [decide_eq_true_eq]; exact h9)]
      exact k
end
end K88
end
section
--@@ gend
set_option Elab.async false
set_option linter.all false
set_option maxRecDepth 100000
set_option maxHeartbeats 4000000
namespace K88
open PySem PySem.Spec PyProof.Rows L2 Tg Dw
local macro_rules | `(tactic| walk_at "d") => `(tactic| simp only [DVar, DCon, DLock, DLockV, DCons, DNil, DOp, DOpN, DUn, DTup, DLst, DCB, DCBN, DMt, DMtN, isB, DB, DNot, DAnd, DOr, DAndV, DOrV, DNotV, DIf, DChain, DNext, DSeq, DIfS, DRet, DDrop, DSet, DSetN, GName, GNil, GCons, GTup, DAsgG, DPar, isL, isT, isS, isI, IList, ITup, IStr, IRng1, IRng2, DFor, DLc, DYes, RInt, RIntC, RStr, RCatS, eqC, REq, RNe, isNone, RIsN, RNotN, RInS, RIx, RSlS, ONone, OSome, DSl, DSlN, on1, on2, RLen, RIntOf, RIntS, RStrI, RAbs, RMin2, RMax2, RAll, RAny, NList, RTuple, RReprD, MStarts, MFind, MJoin, tyB, DIs, DIs3, DApp, DCall, DCallX, DRaise, startD, RAdd, RLe, RInX, NCat, RMulX, NSlL, DFzS, DAug, DCallP, startP, wipeD, IItems, DDGet, DDIn, NSortedD, NListD, MDict, DCBM, DParND, DParNN, DPar3N, DPar3, GPut, DPeek, DNe0, DPop, DLenO, flD, inF, eqF, List.length_cons, List.length_nil, List.map_cons, List.map_nil, List.replicate_succ, List.replicate_zero, List.cons_append, List.nil_append, List.getElem?_cons_zero, List.getElem?_cons_succ, List.set_cons_zero, List.set_cons_succ, Nat.reduceAdd, Nat.reduceSub, Nat.zero_add, Bool.not_true, Bool.not_false, Bool.false_eq_true, if_true, if_false, reduceIte, reduceCtorEq, beq_self_eq_true, Bool.true_or, Bool.or_true, Bool.false_or, Bool.or_false, String.reduceBEq, Option.some.injEq, false_and, and_false, exists_const, true_and, and_true, PyData.str.injEq, exists_eq', exists_eq_left', Nat.reduceLeDiff, DV.l.injEq, DV.m.injEq, DV.pot.injEq, List.all_cons, List.all_nil, List.any_cons, List.any_nil, Bool.and_self, Bool.and_true, Bool.true_and])
/-- what stands ahead of a colon -/
def fldS (z : Str) (i : Nat) : Str := if 0 ≤ Txt.find3 z (Str.ofString ": ") (i : Int) then cutS z (some (i : Int)) (some (Txt.find3 z (Str.ofString ": ") (i : Int))) else Str.ofString ""
theorem at_pre {z : Str} {i : Nat} : StrLaws.At z (Str.ofString ": ") z.length i ↔ pre [58, 32] (cs z) i = true := by
  unfold StrLaws.At pre
  rw [sub_at, show cs (Str.ofString ": ") = [58, 32] from by decide +kernel, show (Str.ofString ": ").length = 2 from by decide]
  constructor
  · intro h
    exact h.2
  · intro h
    refine ⟨?_, h⟩
    have := congrArg List.length (of_decide_eq_true h)
    rw [List.length_take, List.length_drop, len_cs] at this
    simp only [List.length_cons, List.length_nil] at this
    omega
theorem find_cases (z : Str) (i : Nat) : (Txt.find3 z (Str.ofString ": ") (i : Int) = -1 ∧ ∀ k, i ≤ k → pre [58, 32] (cs z) k = false) ∨
    ∃ k : Nat, Txt.find3 z (Str.ofString ": ") (i : Int) = (k : Int) ∧ i ≤ k ∧ pre [58, 32] (cs z) k = true ∧ ∀ m, i ≤ m → m < k → pre [58, 32] (cs z) m = false := by
  unfold Txt.find3
  rw [from_nat]
  rcases StrLaws.occ_head_from z (Str.ofString ": ") i 1 (Nat.le_refl _) with ⟨h, hn⟩ | ⟨k, r, h, hk, ha, hn⟩
  · rw [h]
    exact .inl ⟨rfl, fun k hk => by
      cases q : pre [58, 32] (cs z) k with
      | false => rfl
      | true => exact absurd (at_pre.mpr q) (hn k hk)⟩
  · rw [h]
    exact .inr ⟨k, rfl, hk, at_pre.mp ha, fun m h1 h2 => by
      cases q : pre [58, 32] (cs z) m with
      | false => rfl
      | true => exact absurd (at_pre.mpr q) (hn m h1 h2)⟩
theorem lets_low {l : List Nat} {i : Nat} : (sub l i (lets l i)).all low = true := by
  unfold sub lets
  rw [Nat.add_sub_cancel_left]
  generalize l.drop i = r
  induction r with
  | nil => rfl
  | cons c r ih =>
    rw [List.takeWhile_cons]
    cases hc : low c with
    | true => simp [hc, ih]
    | false => simp
theorem lets_le {l : List Nat} {i : Nat} (h : i ≤ l.length) : lets l i ≤ l.length := by
  unfold lets
  have h2 : ((l.drop i).takeWhile low).length ≤ (l.drop i).length := NumText.len_takeWhile _ _
  rw [List.length_drop] at h2
  omega
/-- the letters end where one is none -/
theorem lets_at {l : List Nat} {i k c : Nat} (hik : i ≤ k) (hl : (sub l i k).all low = true) (hc : l[k]? = some c) (hn : low c = false) : lets l i = k := by
  unfold sub at hl
  unfold lets
  have hk := (List.getElem?_eq_some_iff.mp hc).1
  have e : l.drop i = (l.drop i).take (k - i) ++ c :: l.drop (k + 1) := by
    rw [← drop_at hc]
    conv => lhs; rw [← List.take_append_drop (k - i) (l.drop i)]
    rw [List.drop_drop]
    congr 2
    omega
  rw [e, List.takeWhile_append_of_pos (fun x hx => List.all_eq_true.mp hl x hx), List.takeWhile_cons, hn]
  simp only [Bool.false_eq_true, if_false, List.append_nil, List.length_take, List.length_drop]
  omega
theorem pre_colon {l : List Nat} {k : Nat} (h : pre [58, 32] l k = true) : l[k]? = some 58 := by
  have hl := pre_len h (by decide)
  simp only [List.length_cons, List.length_nil] at hl
  have hk : k < l.length := by omega
  unfold pre at h
  have := of_decide_eq_true h
  rw [List.drop_eq_getElem_cons hk] at this
  rw [List.getElem?_eq_getElem hk]
  exact congrArg some (List.head_eq_of_cons_eq this)
theorem sub_get {l : List Nat} {i j m c : Nat} (h1 : i ≤ m) (h2 : m < j) (hc : l[m]? = some c) : c ∈ sub l i j := by
  unfold sub
  apply List.mem_of_getElem? (i := m - i)
  rw [List.getElem?_take_of_lt (by omega), List.getElem?_drop, show i + (m - i) = m by omega]
  exact hc
/-- the two ways to find a field's name -/
theorem fld_eq {z : Str} {i : Nat} (hi : i ≤ z.length) : (∀ k, lets (cs z) i = k → pre [58, 32] (cs z) k = true → fldS z i = ofL (sub (cs z) i k)) ∧
    (isNm (.str (fldS z i)) = true → pre [58, 32] (cs z) (lets (cs z) i) = true) := by
  have ll := lets_low (l := cs z) (i := i)
  constructor
  · rintro k rfl hk
    have lg := lets_ge (l := cs z) (i := i)
    rcases find_cases z i with ⟨_, hn⟩ | ⟨k, e, h1, h2, h3⟩
    · rw [hn _ lg] at hk
      cases hk
    · have ek : k = lets (cs z) i := by
        by_cases q : k < lets (cs z) i
        · have := List.all_eq_true.mp ll 58 (sub_get h1 q (pre_colon h2))
          cases this
        · by_cases q2 : k = lets (cs z) i
          · exact q2
          · rw [h3 _ lg (by omega)] at hk
            cases hk
      subst ek
      unfold fldS
      rw [e, if_pos (by omega)]
      exact cut_eq
  · intro hn
    rcases find_cases z i with ⟨e, _⟩ | ⟨k, e, h1, h2, h3⟩
    · unfold fldS at hn
      rw [e, if_neg (by omega)] at hn
      cases hn
    · unfold fldS at hn
      rw [e, if_pos (by omega), cut_eq] at hn
      simp only [isNm, Bool.and_eq_true] at hn
      have hl : (sub (cs z) i k).all low = true := hn.2
      rw [lets_at h1 hl (pre_colon h2) (by decide)]
      exact h2
theorem nm_sub {l : List Nat} {i : Nat} (hi : i ≤ l.length) : isNm (.str (ofL (sub l i (lets l i)))) = decide (1 ≤ lets l i - i ∧ lets l i - i ≤ 8) := by
  have ll := lets_low (l := l) (i := i)
  have hl := sub_len (i := i) (lets_le hi)
  simp only [isNm]
  rw [show (ofL (sub l i (lets l i))).length = lets l i - i from by rw [← len_cs, cs_ofL, hl], show (ofL (sub l i (lets l i))).cps.toList = sub l i (lets l i) from rfl, ll]
  simp
section
variable {P : Program} {w : World} {K : PySem.W.Frag} {mg : Str → Option Value} {base : Heap}
def FFld : DF := fun ds Kk => ∃ (z : Str) (i : Nat), ds = [.str z, .int i] ∧ z.length ≤ 600 ∧ Kk (.str (fldS z i))
theorem ok_fld (T : Tx P K mg) : FnOk P w K mg base CX0 1 T.a_field_at T.fd_field_at ["text", "at"] (spD FFld) := by
  refine Dw.okD T.F_field_at sc_field_at (fun ds Kk h => ?_) (fun cdv A outer s H E ds Kk hr h => ⟨_, _, (pss_cons (ps_set (i := 2) sc_field_at.nd rfl (Or.inl rfl) (pe_bm PySem.F.plainAttrs_str PySem.F.slot_str_find PySem.F.type_str_find mFind (pv 0) (pa_cons (pe_glob (v := .str ": ") (by rfl) T.m_NAMED ⟨_, rfl⟩) (pa_cons (pv 1) pa_nil))))
      (pss_one (ps_ret (pe_ifExp (pt_cmpR dGe (pv 2) pe_int (nomark _)) (pe_slice dSlS (pv 0) (po_some (pv 1)) (po_some (pv 2))) pe_str)))), inferInstance, ?_⟩)
  · obtain ⟨z, i, rfl, _⟩ := h
    rfl
  obtain ⟨z, i, rfl, hz, k⟩ := h
  unfold fldS at k
  walk_at "d"
  by_cases h : 0 ≤ Txt.find3 z (Str.ofString ": ") (i : Int)
  · rw [if_pos (decide_eq_true h)]
    rw [if_pos h] at k
    exact ⟨by omega, k⟩
  · rw [if_neg (by simp only [decide_eq_true_eq]; exact h)]
    rw [if_neg h] at k
    exact k
end
end K88
end
section
--@@ gend
set_option Elab.async false
set_option linter.all false
set_option maxRecDepth 100000
set_option maxHeartbeats 4000000
set_option synthInstance.maxHeartbeats 4000000
set_option synthInstance.maxSize 100000
namespace K88
open PySem PySem.Spec PyProof.Rows L2 Tg Dw
local macro_rules | `(tactic| walk_at "d") => `(tactic| simp only [DVar, DCon, DLock, DLockV, DCons, DNil, DOp, DOpN, DUn, DTup, DLst, DCB, DCBN, DMt, DMtN, isB, DB, DNot, DAnd, DOr, DAndV, DOrV, DNotV, DIf, DChain, DNext, DSeq, DIfS, DRet, DDrop, DSet, DSetN, GName, GNil, GCons, GTup, DAsgG, DPar, isL, isT, isS, isI, IList, ITup, IStr, IRng1, IRng2, DFor, DLc, DYes, RInt, RIntC, RStr, RCatS, eqC, REq, RNe, isNone, RIsN, RNotN, RInS, RIx, RSlS, ONone, OSome, DSl, DSlN, on1, on2, RLen, RIntOf, RIntS, RStrI, RAbs, RMin2, RMax2, RAll, RAny, NList, RTuple, RReprD, MStarts, MFind, MJoin, tyB, DIs, DIs3, DApp, DCall, DCallX, DRaise, startD, RAdd, RLe, RInX, NCat, RMulX, NSlL, DFzS, DAug, DCallP, startP, wipeD, IItems, DDGet, DDIn, NSortedD, NListD, MDict, DCBM, DParND, DParNN, DPar3N, DPar3, GPut, DPeek, DNe0, DPop, DLenO, flD, inF, eqF, List.length_cons, List.length_nil, List.map_cons, List.map_nil, List.replicate_succ, List.replicate_zero, List.cons_append, List.nil_append, List.getElem?_cons_zero, List.getElem?_cons_succ, List.set_cons_zero, List.set_cons_succ, Nat.reduceAdd, Nat.reduceSub, Nat.zero_add, Bool.not_true, Bool.not_false, Bool.false_eq_true, if_true, if_false, reduceIte, reduceCtorEq, beq_self_eq_true, Bool.true_or, Bool.or_true, Bool.false_or, Bool.or_false, String.reduceBEq, Option.some.injEq, false_and, and_false, exists_const, true_and, and_true, PyData.str.injEq, exists_eq', exists_eq_left', Nat.reduceLeDiff, DV.l.injEq, DV.m.injEq, DV.pot.injEq, List.all_cons, List.all_nil, List.any_cons, List.any_nil, Bool.and_self, Bool.and_true, Bool.true_and])
section
variable {P : Program} {w : World} {K : PySem.W.Frag} {mg : Str → Option Value} {base : Heap}
def FRec (n : Nat) : DF := fun ds Kk => ∃ (z : Str) (i : Nat), ds = [.str z, .int i] ∧ z.length ≤ 600 ∧ i < z.length ∧ br (cs z) (i + 1) < n ∧ Kk (optP (recAt (partN n (cs z)) (cs z) i))
/-- names that rise -/
def Rises (acc : List (Str × PyData)) : Prop := ∀ p ∈ acc, p.1.cps.toList < (lastS acc).cps.toList ∨ p.1 = lastS acc
theorem put_new {acc : List (Str × PyData)} {x : Str} {d : PyData} (hr : Rises acc) (hx : (lastS acc).cps.toList < x.cps.toList) : putP acc x d = acc ++ [(x, d)] := by
  unfold putP
  rw [if_neg]
  intro h
  obtain ⟨p, hp, e⟩ := List.any_eq_true.mp h
  have e := of_decide_eq_true e
  rcases hr p hp with q | q
  · rw [e] at q
    exact absurd q (List.lt_asymm hx)
  · rw [← q, e] at hx
    exact absurd hx (List.lt_irrefl _)
theorem rises_app {acc : List (Str × PyData)} {x : Str} {d : PyData} (hr : Rises acc) (hx : (lastS acc).cps.toList < x.cps.toList) : Rises (acc ++ [(x, d)]) := by
  intro p hp
  have e : lastS (acc ++ [(x, d)]) = x := by simp [lastS]
  rw [e]
  rcases List.mem_append.mp hp with hp | hp
  · rcases hr p hp with q | q
    · exact .inl (List.lt_trans q hx)
    · exact .inl (by rw [q]; exact hx)
  · cases List.mem_singleton.mp hp
    exact .inr rfl
theorem ok_rec (T : Tx P K mg) {n k : Nat} (hk : 1 ≤ k) (G_part_at : FnOk P w K mg base CX0 k T.a_part_at T.fd_part_at ["text", "at"] (spD (FPart n))) : FnOk P w K mg base CX0 (k + 1) T.a_record_at T.fd_record_at ["text", "at"] (spD (FRec n)) := by
  have G_is_name := ok_name (w := w) (base := base) T
  have G_field_at := ok_fld (w := w) (base := base) T
  refine Dw.okD T.F_record_at sc_record_at (fun ds Kk h => ?_) (fun cdv A outer s H E ds Kk hr h => ⟨_, _, (pss_cons (ps_if (pt_val (pe_bm PySem.F.plainAttrs_str PySem.F.slot_str_startswith PySem.F.type_str_startswith mStarts (pv 0) (pa_cons pe_str (pa_cons (pe_op dAddX (pv 1) pe_int) pa_nil)))) (pss_one (ps_ret (pe_tup (pa_cons (pe_fz pe_dnewK) (pa_cons (pe_op dAddX (pv 1) (pe_glob (v := .int 2) (by rfl) T.m_PAIR ⟨_, rfl⟩)) pa_nil))))) pss_nil)
      (pss_cons (ps_par3 (i := 2) (j := 3) (l := 4) (by rfl) sc_record_at.nd rfl rfl rfl (by decide) (by decide) (by decide) rfl rfl rfl (pa_cons pe_dnewK (pa_cons pe_str (pa_cons (pe_glob (v := .str ", ") (by rfl) T.m_PARTED ⟨_, rfl⟩) pa_nil))) (by rfl))
      (pss_cons (ps_aug (i := 1) sc_record_at.nd rfl (Or.inl rfl) pe_int ipAdd)
      (pss_cons (ps_while PassesOwn.never (pt_cmpR dEq (pv 4) (pe_glob (v := .str ", ") (by rfl) T.m_PARTED ⟨_, rfl⟩) (nomark _)) (pss_cons (ps_set (i := 5) sc_record_at.nd rfl (Or.inl rfl) (pe_call G_field_at (hr.mono (by first | decide | omega)) (by rfl) T.m_field_at T.F_field_at.kp T.b_field_at .nil pass0 (pa_cons (pv 0) (pa_cons (pv 1) pa_nil))))
      (pss_cons (ps_if (PW.pt (pw_or (pt_not (pt_val (pe_call G_is_name (hr.mono (by first | decide | omega)) (by rfl) T.m_is_name T.F_is_name.kp T.b_is_name .nil pass0 (pa_cons (pv 5) pa_nil)))) (pw_or1 (pt_cmpR dLeX (pv 5) (pv 3) (nomark _))))) (pss_one (ps_ret pe_non)) pss_nil)
      (pss_cons (ps_set (i := 6) sc_record_at.nd rfl (Or.inl rfl) (pe_call G_part_at (hr.mono (by first | decide | omega)) (by rfl) T.m_part_at T.F_part_at.kp T.b_part_at .nil pass0 (pa_cons (pv 0) (pa_cons (pe_op dAddX (pe_op dAddX (pv 1) (pe_callB dLen (by rfl) T.n_len PyProof.Rows.Boot.«len» (pa_cons (pv 5) pa_nil))) (pe_callB dLen (by rfl) T.n_len PyProof.Rows.Boot.«len» (pa_cons (pe_glob (v := .str ": ") (by rfl) T.m_NAMED ⟨_, rfl⟩) pa_nil))) pa_nil))))
      (pss_cons (ps_if (pt_cmpR dIsN (pv 6) pe_non (nomark _)) (pss_one (ps_ret pe_non)) pss_nil)
      (pss_cons (ps_asg (pe_tup (pa_cons (pe_ix dIx (pv 6) pe_int (fun _ _ => rfl)) (pa_cons (pv 5) (pa_cons (pe_ix dIx (pv 6) pe_int (fun _ _ => rfl)) pa_nil)))) (pg_tup (n := 3) rfl (pgs_cons (pg_sub (pv 2) (pv 5) (set_dict (hu_of hr))) (pgs_cons (pg_name (i := 3) sc_record_at.nd rfl (Or.inl rfl)) (pgs_cons (pg_name (i := 1) sc_record_at.nd rfl (Or.inl rfl)) pgs_nil)))))
      (pss_cons (ps_set (i := 4) sc_record_at.nd rfl (Or.inl rfl) (pe_slice dSlS (pv 0) (po_some (pv 1)) (po_some (pe_op dAddX (pv 1) (pe_callB dLen (by rfl) T.n_len PyProof.Rows.Boot.«len» (pa_cons (pe_glob (v := .str ", ") (by rfl) T.m_PARTED ⟨_, rfl⟩) pa_nil))))))
      (pss_one (ps_aug (i := 1) sc_record_at.nd rfl (Or.inl rfl) (pe_ifExp (pt_cmpR dEq (pv 4) (pe_glob (v := .str ", ") (by rfl) T.m_PARTED ⟨_, rfl⟩) (nomark _)) (pe_callB dLen (by rfl) T.n_len PyProof.Rows.Boot.«len» (pa_cons (pe_glob (v := .str ", ") (by rfl) T.m_PARTED ⟨_, rfl⟩) pa_nil)) pe_int) ipAdd)))))))))
      (pss_one (ps_ret (pe_ifExp (pt_val (pe_bm PySem.F.plainAttrs_str PySem.F.slot_str_startswith PySem.F.type_str_startswith mStarts (pv 0) (pa_cons pe_str (pa_cons (pv 1) pa_nil)))) (pe_tup (pa_cons (pe_fz (pv 2)) (pa_cons (pe_op dAddX (pv 1) pe_int) pa_nil))) pe_non))))))), inferInstance, ?_⟩)
  · obtain ⟨z, i, rfl, _⟩ := h
    rfl
  obtain ⟨z, i, rfl, hz, hi, hb, k⟩ := h
  have e1 : ∀ j : Nat, Txt.startswith3 z (Str.ofString "}") (j : Int) = decide ((cs z)[j]? = some 125) := fun j => by
    rw [starts_eq (by decide), show cs (Str.ofString "}") = [125] from by decide +kernel, pre1]
  walk_at "d"
  rw [show ((i : Int) + 1) = ((i + 1 : Nat) : Int) from rfl, e1]
  by_cases h0 : (cs z)[i + 1]? = some 125
  · rw [if_pos (decide_eq_true h0)]
    unfold recAt at k
    rw [if_pos h0] at k
    exact k
  rw [if_neg (by simp only [decide_eq_true_eq]; exact h0)]
  unfold recAt at k
  rw [if_neg h0] at k
  generalize hR : recG (partN n (cs z)) (cs z) ((cs z).length + 1) (i + 1) [] = R at k
  refine DWhile.by_ (fun t ρ => ∃ (j : Nat) (acc : List (Str × PyData)) (x5 x6 : Option DV), i + 1 ≤ j ∧ j ≤ z.length ∧ acc.length ≤ j ∧ Rises acc ∧
    ((ρ = [some (.d (.str z)), some (.d (.int j)), some (.m (strP acc)), some (.d (.str (lastS acc))), some (.d (.str (Str.ofString ", "))), x5, x6] ∧ (∃ m, z.length - j < m ∧ R = recG (partN n (cs z)) (cs z) m j acc) ∧ t = z.length - j + 1) ∨
    (∃ sg, ρ = [some (.d (.str z)), some (.d (.int j)), some (.m (strP acc)), some (.d (.str (lastS acc))), some (.d (.str sg)), x5, x6] ∧ decide (sg = Str.ofString ", ") = false ∧ t = 0 ∧ R = if (cs z)[j]? = some 125 then some (.dict (strP acc), j + 1) else none))) _
    ⟨i + 1, [], none, none, Nat.le_refl _, by omega, Nat.zero_le _, (fun p hp => by simp at hp), .inl ⟨rfl, ⟨_, by rw [len_cs]; omega, hR.symm⟩, rfl⟩⟩ ?_
  rintro t ρ ⟨j, acc, x5, x6, hij, hj, hl, hri, ⟨rfl, ⟨m, hm, hR⟩, rfl⟩ | ⟨sg, rfl, hsg, rfl, hR⟩⟩
  · walk_at "d"
    rw [if_pos (by simp)]
    refine ⟨z, j, rfl, hz, _, rfl, fun x e => ?_, ?_⟩
    · cases e
      have : (fldS z j).length ≤ z.length := by
        unfold fldS
        split
        · exact cutS_length _ _ _
        · exact Nat.zero_le _
      omega
    cases m with
    | zero => omega
    | succ m =>
      unfold recG at hR
      obtain ⟨f1, f2⟩ := fld_eq hj
      cases hn : isNm (.str (fldS z j)) with
      | false =>
        walk_at "d"
        rw [if_neg] at hR
        · rw [hR] at k
          exact k
        · rintro ⟨h1, h2, _⟩
          rw [f1 _ rfl h2, nm_sub (by rw [len_cs]; exact hj), decide_eq_true h1] at hn
          cases hn
      | true =>
        have h2 := f2 hn
        have ef := f1 _ rfl h2
        rw [ef] at hn ⊢
        rw [nm_sub (by rw [len_cs]; exact hj), decide_eq_true_eq] at hn
        walk_at "d"
        rw [show (ofL (sub (cs z) j (lets (cs z) j))).cps.toList = sub (cs z) j (lets (cs z) j) from rfl]
        by_cases hx : (lastS acc).cps.toList < sub (cs z) j (lets (cs z) j)
        · rw [if_pos ⟨hn, h2, hx⟩] at hR
          rw [if_neg (by simp [hx])]
          have hle := lets_le (l := cs z) (i := j) (by rw [len_cs]; exact hj)
          have hlg := lets_ge (l := cs z) (i := j)
          rw [len_cs] at hle
          have hpl := pre_len h2 (by decide)
          simp only [List.length_cons, List.length_nil, len_cs] at hpl
          have hls : (ofL (sub (cs z) j (lets (cs z) j))).length = lets (cs z) j - j := by
            rw [← len_cs]
            show (sub (cs z) j (lets (cs z) j)).length = _
            simp only [sub, List.length_take, List.length_drop, len_cs]
            omega
          have e3 : (j : Int) + ((ofL (sub (cs z) j (lets (cs z) j))).length : Nat) + ((Str.ofString ": ").length : Nat) = ((lets (cs z) j + 2 : Nat) : Int) := by
            rw [hls, show (Str.ofString ": ").length = 2 by decide]
            omega
          rw [e3]
          refine ⟨by omega, by decide, z, lets (cs z) j + 2, rfl, hz, by omega, Nat.lt_of_le_of_lt (br_mono (by omega)) hb, ?_⟩
          cases q : partN n (cs z) (lets (cs z) j + 2) with
          | none =>
            rw [q] at hR
            simp only at hR
            rw [hR] at k
            simp only [optP, isNone]
            exact k
          | some p =>
            obtain ⟨d, e⟩ := p
            rw [q] at hR
            simp only at hR
            have g := part_goes n (cs z) _ d e q
            rw [len_cs] at g
            simp only [optP, isNone, Bool.false_eq_true, if_false]
            refine ⟨d, rfl, .int e, rfl, acc, rfl, by omega, ?_⟩
            simp only
            refine ⟨by decide, ?_⟩
            refine ⟨by omega, ?_⟩
            have e2 : ((e : Int) + ((Str.ofString ", ").length : Nat)) = (e : Int) + 2 := by
              rw [show (Str.ofString ", ").length = 2 by decide]
              rfl
            rw [e2, cut2, put_new hri hx]
            have hlast : lastS (acc ++ [(ofL (sub (cs z) j (lets (cs z) j)), d)]) = ofL (sub (cs z) j (lets (cs z) j)) := by simp [lastS]
            have hri' := rises_app (d := d) (x := ofL (sub (cs z) j (lets (cs z) j))) hri hx
            cases hp : pre [44, 32] (cs z) e with
            | true =>
              rw [hp] at hR
              simp only [if_true] at hR
              have hpl := pre_len hp (by decide)
              simp only [List.length_cons, List.length_nil, len_cs] at hpl
              have hsg : cutS z (some (e : Int)) (some ((e : Int) + 2)) = Str.ofString ", " := of_decide_eq_true (by rw [cut2]; exact hp)
              rw [hsg]
              refine ⟨by decide, z.length - (e + 2) + 1, by omega, e + 2, acc ++ [(ofL (sub (cs z) j (lets (cs z) j)), d)], some (.d (.str (ofL (sub (cs z) j (lets (cs z) j))))), some (.d (.tuple [d, .int e])), by omega, by omega, by simp; omega, hri', .inl ⟨?_, ⟨m, by omega, hR⟩, rfl⟩⟩
              rw [hlast]
              rfl
            | false =>
              rw [hp] at hR
              simp only [Bool.false_eq_true, if_false] at hR
              rw [show (e : Int) + 0 = (e : Int) from Int.add_zero _]
              refine ⟨0, by omega, e, acc ++ [(ofL (sub (cs z) j (lets (cs z) j)), d)], some (.d (.str (ofL (sub (cs z) j (lets (cs z) j))))), some (.d (.tuple [d, .int e])), by omega, by omega, by simp; omega, hri', .inr ⟨_, ?_, by rw [cut2]; exact hp, rfl, hR⟩⟩
              rw [hlast]
        · rw [if_neg (fun q => hx q.2.2)] at hR
          rw [hR] at k
          rw [if_pos (by simp [hx])]
          exact k
  · walk_at "d"
    rw [hsg]
    rw [if_neg (by decide)]
    rw [e1]
    by_cases h9 : (cs z)[j]? = some 125
    · rw [if_pos h9] at hR
      rw [hR] at k
      rw [if_pos (decide_eq_true h9)]
      exact k
    · rw [if_neg h9] at hR
      rw [hR] at k
      rw [if_neg (by simp only [decide_eq_true_eq]; exact h9)]
      exact k
end
end K88
end
section
--@@ gend
set_option Elab.async false
set_option linter.all false
set_option maxRecDepth 100000
set_option maxHeartbeats 4000000
set_option synthInstance.maxHeartbeats 4000000
set_option synthInstance.maxSize 100000
namespace K88
open PySem PySem.Spec PyProof.Rows L2 Tg Dw
local macro_rules | `(tactic| walk_at "d") => `(tactic| simp only [DVar, DCon, DLock, DLockV, DCons, DNil, DOp, DOpN, DUn, DTup, DLst, DCB, DCBN, DMt, DMtN, isB, DB, DNot, DAnd, DOr, DAndV, DOrV, DNotV, DIf, DChain, DNext, DSeq, DIfS, DRet, DDrop, DSet, DSetN, GName, GNil, GCons, GTup, DAsgG, DPar, isL, isT, isS, isI, IList, ITup, IStr, IRng1, IRng2, DFor, DLc, DYes, RInt, RIntC, RStr, RCatS, eqC, REq, RNe, isNone, RIsN, RNotN, RInS, RIx, RSlS, ONone, OSome, DSl, DSlN, on1, on2, RLen, RIntOf, RIntS, RStrI, RAbs, RMin2, RMax2, RAll, RAny, NList, RTuple, RReprD, MStarts, MFind, MJoin, tyB, DIs, DIs3, DApp, DCall, DCallX, DRaise, startD, RAdd, RLe, RInX, NCat, RMulX, NSlL, DFzS, DAug, DCallP, startP, wipeD, IItems, DDGet, DDIn, NSortedD, NListD, MDict, DCBM, DParND, DParNN, DPar3N, DPar3, GPut, DPeek, DNe0, DPop, DLenO, DPar3M, flD, inF, eqF, List.length_cons, List.length_nil, List.map_cons, List.map_nil, List.replicate_succ, List.replicate_zero, List.cons_append, List.nil_append, List.getElem?_cons_zero, List.getElem?_cons_succ, List.set_cons_zero, List.set_cons_succ, Nat.reduceAdd, Nat.reduceSub, Nat.zero_add, Bool.not_true, Bool.not_false, Bool.false_eq_true, if_true, if_false, reduceIte, reduceCtorEq, beq_self_eq_true, Bool.true_or, Bool.or_true, Bool.false_or, Bool.or_false, String.reduceBEq, Option.some.injEq, false_and, and_false, exists_const, true_and, and_true, PyData.str.injEq, exists_eq', exists_eq_left', Nat.reduceLeDiff, DV.l.injEq, DV.m.injEq, DV.pot.injEq, List.all_cons, List.all_nil, List.any_cons, List.any_nil, Bool.and_self, Bool.and_true, Bool.true_and])
theorem sub1 {l : List Nat} {i : Nat} : sub l i (i + 1) = match l[i]? with | some c => [c] | none => [] := by
  unfold sub
  rw [show i + 1 - i = 1 by omega]
  by_cases h : i < l.length
  · rw [List.drop_eq_getElem_cons h, List.getElem?_eq_getElem h]
    rfl
  · rw [List.drop_of_length_le (by omega), List.getElem?_eq_none (by omega)]
    rfl
theorem cut1 {z : Str} {i c : Nat} : decide (cutS z (some (i : Int)) (some ((i : Int) + 1)) = ofL [c]) = decide ((cs z)[i]? = some c) := by
  have e : cutS z (some (i : Int)) (some ((i : Int) + 1)) = ofL (sub (cs z) i (i + 1)) := cut_eq (i := i) (j := i + 1)
  rw [e, sub1]
  cases h : (cs z)[i]? with
  | none => simp [ofL]
  | some d => simp [ofL]
theorem in_digs {z : Str} {i : Nat} : inF (.str (cutS z (some (i : Int)) (some ((i : Int) + 1)))) (Dw.signs (Str.ofString "0123456789")) = decide (∃ c, (cs z)[i]? = some c ∧ isDig c = true) := by
  have e : cutS z (some (i : Int)) (some ((i : Int) + 1)) = ofL (sub (cs z) i (i + 1)) := cut_eq (i := i) (j := i + 1)
  rw [e, sub1, show Dw.signs (Str.ofString "0123456789") = [48, 49, 50, 51, 52, 53, 54, 55, 56, 57].map fun c => PyData.str ⟨#[c]⟩ from by unfold Dw.signs; rw [show (Str.ofString "0123456789").cps.toList = [48, 49, 50, 51, 52, 53, 54, 55, 56, 57] from by decide +kernel]]
  unfold inF
  cases h : (cs z)[i]? with
  | none => simp [ofL, eqF]
  | some d =>
    simp only [List.map_cons, List.map_nil, List.any_cons, List.any_nil, eqF, ofL, isDig, Option.some.injEq]
    rw [Bool.eq_iff_iff]
    simp
    omega
section
variable {P : Program} {w : World} {K : PySem.W.Frag} {mg : Str → Option Value} {base : Heap}
theorem part_step (T : Tx P K mg) {n k : Nat} (hk : 1 ≤ k) (G_part_at : FnOk P w K mg base CX0 k T.a_part_at T.fd_part_at ["text", "at"] (spD (FPart n))) : FnOk P w K mg base CX0 (k + 2) T.a_part_at T.fd_part_at ["text", "at"] (spD (FPart (n + 1))) := by
  have G_list_at := ok_lst (w := w) (base := base) T G_part_at
  have G_record_at := ok_rec (w := w) (base := base) T hk G_part_at
  have G_string_at := ok_str (w := w) (base := base) T
  have G_number_at := ok_num (w := w) (base := base) T
  refine Dw.okD T.F_part_at sc_part_at (fun ds Kk h => ?_) (fun cdv A outer s H E ds Kk hr h => ⟨_, _, (pss_cons (ps_set (i := 2) sc_part_at.nd rfl (Or.inl rfl) (pe_slice dSlS (pv 0) (po_some (pv 1)) (po_some (pe_op dAddX (pv 1) pe_int))))
      (pss_cons (ps_if (pt_cmpR dEq (pv 2) (pe_glob (v := .str "\"") (by rfl) T.m_QUOTE ⟨_, rfl⟩) (nomark _)) (pss_one (ps_ret (pe_call G_string_at (hr.mono (by first | decide | omega)) (by rfl) T.m_string_at T.F_string_at.kp T.b_string_at .nil pass0 (pa_cons (pv 0) (pa_cons (pv 1) pa_nil))))) pss_nil)
      (pss_cons (ps_if (pt_cmpR dEq (pv 2) pe_str (nomark _)) (pss_one (ps_ret (pe_call G_list_at (hr.mono (by first | decide | omega)) (by rfl) T.m_list_at T.F_list_at.kp T.b_list_at .nil pass0 (pa_cons (pv 0) (pa_cons (pv 1) pa_nil))))) pss_nil)
      (pss_cons (ps_if (pt_cmpR dEq (pv 2) pe_str (nomark _)) (pss_one (ps_ret (pe_call G_record_at (hr.mono (by first | decide | omega)) (by rfl) T.m_record_at T.F_record_at.kp T.b_record_at .nil pass0 (pa_cons (pv 0) (pa_cons (pv 1) pa_nil))))) pss_nil)
      (pss_cons (ps_if (pt_val (pe_bm PySem.F.plainAttrs_str PySem.F.slot_str_startswith PySem.F.type_str_startswith mStarts (pv 0) (pa_cons (pe_glob (v := .str "yes") (by rfl) T.m_YES ⟨_, rfl⟩) (pa_cons (pv 1) pa_nil)))) (pss_one (ps_ret (pe_tup (pa_cons pe_bl (pa_cons (pe_op dAddX (pv 1) (pe_callB dLen (by rfl) T.n_len PyProof.Rows.Boot.«len» (pa_cons (pe_glob (v := .str "yes") (by rfl) T.m_YES ⟨_, rfl⟩) pa_nil))) pa_nil))))) pss_nil)
      (pss_cons (ps_if (pt_val (pe_bm PySem.F.plainAttrs_str PySem.F.slot_str_startswith PySem.F.type_str_startswith mStarts (pv 0) (pa_cons (pe_glob (v := .str "no") (by rfl) T.m_NO ⟨_, rfl⟩) (pa_cons (pv 1) pa_nil)))) (pss_one (ps_ret (pe_tup (pa_cons pe_bl (pa_cons (pe_op dAddX (pv 1) (pe_callB dLen (by rfl) T.n_len PyProof.Rows.Boot.«len» (pa_cons (pe_glob (v := .str "no") (by rfl) T.m_NO ⟨_, rfl⟩) pa_nil))) pa_nil))))) pss_nil)
      (pss_cons (ps_if (PW.pt (pw_and (pt_cmpR dEq (pv 2) (pe_glob (v := .str "-") (by rfl) T.m_MINUS ⟨_, rfl⟩) (nomark _)) (pw_and1 (pt_cmpR dNotInX (pe_slice dSlS (pv 0) (po_some (pe_op dAddX (pv 1) pe_int)) (po_some (pe_op dAddX (pv 1) (pe_glob (v := .int 2) (by rfl) T.m_PAIR ⟨_, rfl⟩)))) (pe_fz (pe_callTy (dListS rfl) (by rfl) T.n_list PyProof.Rows.Boot.«list» (pa_cons (pe_glob (v := .str "0123456789") (by rfl) T.m_DIGITS ⟨_, rfl⟩) pa_nil))) (by rfl))))) (pss_one (ps_ret (pe_tup (pa_cons pe_non (pa_cons (pe_op dAddX (pv 1) pe_int) pa_nil))))) pss_nil)
      (pss_one (ps_ret (pe_call G_number_at (hr.mono (by first | decide | omega)) (by rfl) T.m_number_at T.F_number_at.kp T.b_number_at .nil pass0 (pa_cons (pv 0) (pa_cons (pv 1) pa_nil)))))))))))), inferInstance, ?_⟩)
  · obtain ⟨z, i, rfl, _⟩ := h
    rfl
  obtain ⟨z, i, rfl, hz, hi, hb, k⟩ := h
  have e1 : Txt.startswith3 z (Str.ofString "yes") (i : Int) = pre [121, 101, 115] (cs z) i := by
    rw [starts_eq (by decide), show cs (Str.ofString "yes") = [121, 101, 115] from by decide +kernel]
  have e2 : Txt.startswith3 z (Str.ofString "no") (i : Int) = pre [110, 111] (cs z) i := by
    rw [starts_eq (by decide), show cs (Str.ofString "no") = [110, 111] from by decide +kernel]
  have q1 : Str.ofString "\"" = ofL [34] := by decide +kernel
  have q2 : Str.ofString "[" = ofL [91] := by decide +kernel
  have q3 : Str.ofString "{" = ofL [123] := by decide +kernel
  have q4 : Str.ofString "-" = ofL [45] := by decide +kernel
  walk_at "d"
  rw [e1, e2, q1, q2, q3, q4]
  simp only [cut1]
  refine ⟨by omega, ?_⟩
  unfold partN at k
  simp only [decide_eq_true_eq]
  have lt : ∀ {c : Nat}, (cs z)[i]? = some c → i < z.length := fun h => by
    have := (List.getElem?_eq_some_iff.mp h).1
    rwa [len_cs] at this
  by_cases h1 : (cs z)[i]? = some 34
  · rw [if_pos h1] at k ⊢
    exact ⟨z, i, rfl, hz, lt h1, k⟩
  rw [if_neg h1] at k ⊢
  by_cases h2 : (cs z)[i]? = some 91
  · rw [if_pos h2] at k ⊢
    have := br_next h2 (by decide)
    exact ⟨z, i, rfl, hz, lt h2, by omega, k⟩
  rw [if_neg h2] at k ⊢
  by_cases h3 : (cs z)[i]? = some 123
  · rw [if_pos h3] at k ⊢
    have := br_next h3 (by decide)
    exact ⟨z, i, rfl, hz, lt h3, by omega, k⟩
  rw [if_neg h3] at k ⊢
  by_cases h4 : pre [121, 101, 115] (cs z) i = true
  · rw [if_pos h4] at k ⊢
    exact ⟨by decide, k⟩
  rw [if_neg h4] at k ⊢
  by_cases h5 : pre [110, 111] (cs z) i = true
  · rw [if_pos h5] at k ⊢
    exact ⟨by decide, k⟩
  rw [if_neg h5] at k ⊢
  by_cases h6 : (cs z)[i]? = some 45
  · rw [if_pos h6]
    refine ⟨by omega, by decide, by decide +kernel, ?_⟩
    change if (!inF (.str (cutS z (some (((i + 1 : Nat) : Int))) (some (((i + 1 : Nat) : Int) + 1)))) (Dw.signs (Str.ofString "0123456789"))) = true then _ else _
    rw [in_digs]
    by_cases h7 : ∃ c, (cs z)[i + 1]? = some c ∧ isDig c = true
    · rw [if_neg (fun q => q.2 h7)] at k
      rw [if_neg (by rw [decide_eq_true h7]; decide)]
      exact ⟨z, i, rfl, hz, hi, k⟩
    · rw [if_pos ⟨h6, h7⟩] at k
      rw [if_pos (by rw [decide_eq_false h7]; decide)]
      exact k
  · rw [if_neg (fun q => h6 q.1)] at k
    rw [if_neg h6]
    exact ⟨z, i, rfl, hz, hi, k⟩
theorem ok_part (T : Tx P K mg) : ∀ n : Nat, FnOk P w K mg base CX0 (2 * n + 1) T.a_part_at T.fd_part_at ["text", "at"] (spD (FPart n))
  | 0 => fn_never fun vs H Q E h => by
      obtain ⟨ds, Kk, r, ⟨z, i, _, _, _, q, _⟩, _⟩ := h
      exact Nat.not_lt_zero _ q
  | n + 1 => part_step T (by omega) (ok_part T n)
/-- what the text says as a whole -/
def docN (n : Nat) (z : Str) : Option PyData := match partN n (cs z) 0 with
  | some (d, j) => if j = z.length then some d else none
  | none => none
def tup1 : Option PyData → PyData
  | none => .none
  | some d => .tuple [d]
def FDin (n : Nat) : DF := fun ds Kk => ∃ z : Str, ds = [.str z] ∧ z.length ≤ 600 ∧ br (cs z) 0 < n ∧ Kk (tup1 (docN n z))
theorem ok_din (T : Tx P K mg) (n : Nat) : FnOk P w K mg base CX0 (2 * n + 2) T.a_document_in T.fd_document_in ["text"] (spD (FDin n)) := by
  have G_part_at := ok_part (w := w) (base := base) T n
  refine Dw.okD T.F_document_in sc_document_in (fun ds Kk h => ?_) (fun cdv A outer s H E ds Kk hr h => ⟨_, _, (pss_cons (ps_set (i := 1) sc_document_in.nd rfl (Or.inl rfl) (pe_call G_part_at (hr.mono (by first | decide | omega)) (by rfl) T.m_part_at T.F_part_at.kp T.b_part_at .nil pass0 (pa_cons (pv 0) (pa_cons pe_int pa_nil))))
      (pss_cons (ps_if (PW.pt (pw_or (pt_cmpR dIsN (pv 1) pe_non (nomark _)) (pw_or1 (pt_cmpR dNe (pe_ix dIx (pv 1) pe_int (fun _ _ => rfl)) (pe_callB dLen (by rfl) T.n_len PyProof.Rows.Boot.«len» (pa_cons (pv 0) pa_nil)) (nomark _))))) (pss_one (ps_ret pe_non)) pss_nil)
      (pss_one (ps_ret (pe_tup (pa_cons (pe_ix dIx (pv 1) pe_int (fun _ _ => rfl)) pa_nil)))))), inferInstance, ?_⟩)
  · obtain ⟨z, rfl, _⟩ := h
    rfl
  obtain ⟨z, rfl, hz, hb, k⟩ := h
  unfold docN at k
  walk_at "d"
  refine ⟨z, 0, rfl, hz, Nat.zero_le _, hb, ?_⟩
  cases q : partN n (cs z) 0 with
  | none =>
    rw [q] at k
    simp only [optP, isNone, if_true]
    exact k
  | some p =>
    obtain ⟨d, j⟩ := p
    rw [q] at k
    simp only [optP, isNone, Bool.false_eq_true, if_false] at k ⊢
    refine ⟨.int j, rfl, by omega, ?_⟩
    by_cases h : j = z.length
    · rw [if_pos h] at k
      subst h
      simp
      exact ⟨d, rfl, k⟩
    · rw [if_neg h] at k
      simp only
      rw [if_pos]
      · exact k
      · simp
        omega
def FRead (C : Addr) (n : Nat) : DFX := fun ds Kk Ex => ∃ d, ds = [d] ∧ (∀ z, d = .str z → z.length ≤ 600 ∧ br (cs z) 0 < n) ∧ (match d with
  | .str z => (match docN n z with
    | some e => Kk e
    | none => Ex C (.str z))
  | d => Ex C d)
theorem ok_read (T : Tx P K mg) (n : Nat) : FnOk P w K mg base (L2.CX P w) (2 * n + 3) T.a_read_document T.fd_read_document ["text"] (spX (FRead T.C_BadText n)) := by
  have G_document_in := ok_din (w := w) (base := base) T n
  refine Dw.okX T.F_read_document sc_read_document (fun ds Kk Ex h => ?_) (fun cdv A outer s H E ds Kk Ex ex hr h => ⟨_, _, (pss_cons (ps_set (i := 1) sc_read_document.nd rfl (Or.inl rfl) (pe_ifExp (pt_val (pe_callB call_isD (by rfl) T.n_isinstance PyProof.Rows.Boot.«isinstance» (pa_cons (pv 0) (pa_cons (pe_bltn (v := .ty "str") (by rfl) T.n_str PyProof.Rows.Boot.«str» rfl) pa_nil)))) (pe_call G_document_in (hr.mono (by first | decide | omega)) (by rfl) T.m_document_in T.F_document_in.kp T.b_document_in .nil pass0 (pa_cons (pv 0) pa_nil)) pe_non))
      (pss_cons (ps_if (pt_cmpR dIsN (pv 1) pe_non (nomark _)) (pss_one (ps_raiseD rfl (takes_of rfl rfl rfl rfl) T.e_BadText T.ini (hr.mono (by first | decide | omega)) (by rfl) T.m_BadText T.b_ini (pv 0))) pss_nil)
      (pss_one (ps_ret (pe_ix dIx (pv 1) pe_int (fun _ _ => rfl)))))), inferInstance, ?_⟩)
  · obtain ⟨d, rfl, _⟩ := h
    rfl
  obtain ⟨d, rfl, hb, k⟩ := h
  cases d with
  | str z =>
    obtain ⟨hz, hb⟩ := hb z rfl
    walk_at "d"
    refine ⟨z, rfl, hz, hb, ?_⟩
    simp only at k
    cases q : docN n z with
    | none =>
      rw [q] at k
      simp only [tup1, isNone, if_true]
      exact k
    | some e =>
      rw [q] at k
      simp only [tup1, isNone, Bool.false_eq_true, if_false]
      exact ⟨e, rfl, k⟩
  | _ =>
    walk_at "d"
    exact k
end
end K88
end
section
--@@ gend
set_option Elab.async false
set_option linter.all false
set_option maxRecDepth 100000
set_option maxHeartbeats 4000000
set_option synthInstance.maxHeartbeats 4000000
set_option synthInstance.maxSize 100000
namespace K88
open PySem PySem.Spec PyProof.Rows L2 Tg Dw
local macro_rules | `(tactic| walk_at "d") => `(tactic| simp only [DVar, DCon, DLock, DLockV, DCons, DNil, DOp, DOpN, DUn, DTup, DLst, DCB, DCBN, DMt, DMtN, isB, DB, DNot, DAnd, DOr, DAndV, DOrV, DNotV, DIf, DChain, DNext, DSeq, DIfS, DRet, DDrop, DSet, DSetN, GName, GNil, GCons, GTup, DAsgG, DPar, isL, isT, isS, isI, IList, ITup, IStr, IRng1, IRng2, DFor, DLc, DYes, RInt, RIntC, RStr, RCatS, eqC, REq, RNe, isNone, RIsN, RNotN, RInS, RIx, RSlS, ONone, OSome, DSl, DSlN, on1, on2, RLen, RIntOf, RIntS, RStrI, RAbs, RMin2, RMax2, RAll, RAny, NList, RTuple, RReprD, MStarts, MFind, MJoin, tyB, DIs, DIs3, DApp, DCall, DCallX, DRaise, startD, RAdd, RLe, RInX, NCat, RMulX, NSlL, DFzS, DAug, DCallP, startP, wipeD, IItems, DDGet, DDIn, NSortedD, NListD, MDict, DCBM, DParND, DParNN, DPar3N, DPar3, GPut, DPeek, DNe0, DPop, DLenO, DPar3M, flD, inF, eqF, List.length_cons, List.length_nil, List.map_cons, List.map_nil, List.replicate_succ, List.replicate_zero, List.cons_append, List.nil_append, List.getElem?_cons_zero, List.getElem?_cons_succ, List.set_cons_zero, List.set_cons_succ, Nat.reduceAdd, Nat.reduceSub, Nat.zero_add, Bool.not_true, Bool.not_false, Bool.false_eq_true, if_true, if_false, reduceIte, reduceCtorEq, beq_self_eq_true, Bool.true_or, Bool.or_true, Bool.false_or, Bool.or_false, String.reduceBEq, Option.some.injEq, false_and, and_false, exists_const, true_and, and_true, PyData.str.injEq, exists_eq', exists_eq_left', Nat.reduceLeDiff, DV.l.injEq, DV.m.injEq, DV.pot.injEq, List.all_cons, List.all_nil, List.any_cons, List.any_nil, Bool.and_self, Bool.and_true, Bool.true_and])
section
variable {P : Program} {w : World} {K : PySem.W.Frag} {mg : Str → Option Value} {base : Heap}
def FNever : DF := fun _ _ => False
def FShow (C : Addr) (n : Nat) : DFX := fun ds Kk Ex => ∃ d, ds = [d] ∧ fit d = true ∧ d.depth < n ∧ isDoc d = false ∧ Ex C d
theorem ok_show (T : Tx P K mg) (n : Nat) : FnOk P w K mg base (L2.CX P w) (n + 4) T.a_show_document T.fd_show_document ["document"] (spX (FShow T.C_NoDocument n)) := by
  have G_check_document := ok_chk (w := w) (base := base) T n
  have G_document_text : FnOk P w K mg base CX0 0 T.a_document_text T.fd_document_text ["document"] (spD FNever) := fn_never fun vs H Q E h => by
    obtain ⟨ds, Kk, r, z, _⟩ := h
    exact z
  refine Dw.okX T.F_show_document sc_show_document (fun ds Kk Ex h => ?_) (fun cdv A outer s H E ds Kk Ex ex hr h => ⟨_, _, (pss_cons (ps_expr (pe_call G_check_document (hr.mono (by first | decide | omega)) (by rfl) T.m_check_document T.F_check_document.kp T.b_check_document .nil (passes_call (takes_of rfl rfl rfl rfl) fun _ _ _ _ h => h) (pa_cons (pv 0) pa_nil)))
      (pss_one (ps_ret (pe_call G_document_text (hr.mono (by first | decide | omega)) (by rfl) T.m_document_text T.F_document_text.kp T.b_document_text .nil pass0 (pa_cons (pv 0) pa_nil))))), inferInstance, ?_⟩)
  · obtain ⟨d, rfl, _⟩ := h
    rfl
  obtain ⟨d, rfl, hf, hd, hn, k⟩ := h
  walk_at "d"
  exact ⟨d, rfl, hf, hd, (fun z => by rw [hn] at z; cases z), fun _ => k⟩
/-! ### draws -/
def FTake : DP := fun c ds Kk => ∃ n : Int, ds = [.int n] ∧ c < 1000000 ∧ 0 < n ∧ n < 1073741824 ∧ ∀ r : Nat, (r : Int) < n → Kk (.int r) (c + 1)
theorem okP_take (T : Tx P K mg) : FnOk P w K mg base CX0 1 T.a__law_take T.fd__law_take ["_law_pot_here", "_law_upto"] (spP FTake) := Dw.FnOk.sub (ok_take T) fun vs H Q E h => by
  obtain ⟨p, c, ds, vs', Kk, rfl, hp, r, ⟨n, rfl, hc, h0, h1, k⟩, q⟩ := h
  obtain ⟨x, rfl, r1⟩ := rpL1 r
  cases rp_int r1
  refine ⟨p, c, n, rfl, hp, hc, h0, h1, fun H' r b hp' r0 r1 => ?_⟩
  obtain ⟨m, rfl⟩ := Int.eq_ofNat_of_zero_le r0
  exact q _ _ _ _ (k m r1) b hp' Rp.int
def FOf : DP := fun c ds Kk => ∃ xs : List PyData, ds = [.list xs] ∧ c < 1000000 ∧ xs ≠ [] ∧ xs.length < 1000 ∧ ∀ d ∈ xs, Kk d (c + 1)
theorem rpL_mem {H : Hp} : ∀ {ds : List PyData} {xs : List V} {v : V}, RpL H ds xs → v ∈ xs → ∃ d ∈ ds, Rp H d v
  | [], xs, v, r, h => by simp only [RpL] at r; subst r; cases h
  | d :: ds, xs, v, r, h => by
    simp only [RpL] at r
    obtain ⟨x, r', rfl, h1, h2⟩ := r
    rcases List.mem_cons.mp h with rfl | h
    · exact ⟨d, List.mem_cons_self, h1⟩
    · obtain ⟨e, m, q⟩ := rpL_mem h2 h
      exact ⟨e, List.mem_cons_of_mem _ m, q⟩
theorem okP_of (T : Tx P K mg) : FnOk P w K mg base CX0 2 T.a__law_of T.fd__law_of ["_law_pot_here", "_law_some"] (spP FOf) := Dw.FnOk.sub (ok_of T) fun vs H Q E h => by
  obtain ⟨p, c, ds, vs', Kk, rfl, hp, r, ⟨xs, rfl, hc, h0, h1, k⟩, q⟩ := h
  obtain ⟨x, rfl, r1⟩ := rpL1 r
  obtain ⟨a, o, vs, rfl, ha, rl⟩ := rp_list r1
  obtain ⟨ys, hx⟩ := hp.ld
  have hl := rpL_len rl
  refine ⟨p, a, c, vs, rfl, hp, hc, .inl (.inr ⟨o, ha⟩), (fun z => by rw [z, hx] at ha; cases ha), fun z => h0 (by subst z; exact List.length_eq_zero_iff.mp hl), by omega, fun H' v b hp' m => ?_⟩
  obtain ⟨d, md, rd⟩ := rpL_mem rl m
  exact q _ _ _ _ (k d md) b hp' (rd.keep (kp_but hx True.intro b))
def FUnl : DP := fun c ds Kk => ∃ (xs : List PyData) (m : Nat), ds = [.list xs, .int m] ∧ c + m < 1000000 ∧ xs.length < 1000 ∧ ∀ (ys : List PyData) (c' : Int), (∀ y ∈ ys, y ∈ xs) → ys.length ≤ m → c' ≤ c + m → Kk (.list ys) c'
theorem ok_unl (T : Tx P K mg) : FnOk P w K mg base CX0 2 T.a__law_unlike T.fd__law_unlike ["_law_pot_here", "_law_some", "_law_many"] (spP FUnl) := by
  have G__law_take := okP_take (w := w) (base := base) T
  refine Dw.okP T.F__law_unlike sc__law_unlike (by decide) (fun c ds Kk h => ?_) (fun cdv A outer s H E p c ds Kk hr h => ⟨_, _, (pss_cons (ps_par (i := 3) (j := 4) (by rfl) sc__law_unlike.nd rfl rfl (by decide) rfl rfl (pa_cons (pe_callTy dList (by rfl) T.n_list PyProof.Rows.Boot.«list» (pa_cons (pv 1) pa_nil)) (pa_cons (pe_lst pa_nil) pa_nil)) (by rfl))
      (pss_cons (ps_for PassesOwn.never rfl (pi_range1 (by rfl) T.n_range (pa_cons (pe_callB (dMin2 rfl) (by rfl) T.n_min PyProof.Rows.Boot.«min» (pa_cons (pv 2) (pa_cons (pe_callB call_lenO (by rfl) T.n_len PyProof.Rows.Boot.«len» (pa_cons (pv 3) pa_nil)) pa_nil))) pa_nil)) (pg_name (i := 5) sc__law_unlike.nd rfl (Or.inl rfl)) (pss_one (ps_expr (pe_bm PySem.F.plainAttrs_list PySem.F.slot_list_append PySem.F.type_list_append mt_append (pv 4) (pa_cons (pe_bm PySem.F.plainAttrs_list PySem.F.slot_list_pop PySem.F.type_list_pop mt_popAt (pv 3) (pa_cons (pe_call G__law_take (hr.mono (by first | decide | omega)) (by rfl) T.m__law_take T.F__law_take.kp T.b__law_take .nil pass0 (pa_cons (pv 0) (pa_cons (pe_callB call_lenO (by rfl) T.n_len PyProof.Rows.Boot.«len» (pa_cons (pv 3) pa_nil)) pa_nil))) pa_nil)) pa_nil)))))
      (pss_one (ps_ret (pe_fz (pv 4)))))), inferInstance, ?_⟩)
  · obtain ⟨xs, m, rfl, _⟩ := h
    rfl
  obtain ⟨xs, m, rfl, hc, hl, k⟩ := h
  walk_at "d"
  obtain ⟨q, hq, hq1, hq2⟩ : ∃ q : Nat, (if (xs.length : Int) < (m : Int) then (xs.length : Int) else (m : Int)) = (q : Int) ∧ q ≤ m ∧ q ≤ xs.length := by
    by_cases h : (xs.length : Int) < (m : Int)
    · exact ⟨xs.length, if_pos h, by omega, by omega⟩
    · exact ⟨m, if_neg h, by omega, by omega⟩
  rw [hq]
  refine ⟨by decide, ⟨by omega, by omega⟩, fun i ρ => ∃ (left found : List PyData) (x5 : Option DV), ρ = [some (.pot p (c + i)), some (.d (.list xs)), some (.d (.int m)), some (.l left), some (.l found), x5] ∧ left.length + i = xs.length ∧ found.length = i ∧ (∀ y ∈ left, y ∈ xs) ∧ ∀ y ∈ found, y ∈ xs, ?_, ?_, ?_⟩
  · exact ⟨xs, [], none, by simp, rfl, rfl, fun _ h => h, fun _ h => by simp at h⟩
  · rintro i x ρ hx ⟨left, found, x5, rfl, h1, h2, h3, h4⟩
    have hi : i < q := by
      have := (List.getElem?_eq_some_iff.mp hx).1
      simpa [rngD] using this
    walk_at "d"
    refine ⟨⟨_, _, rfl, rfl⟩, _, rfl, by omega, by omega, by omega, fun r hr => ?_⟩
    have hr : r < left.length := by omega
    refine ⟨r, left[r], rfl, List.getElem?_eq_getElem hr, by omega, by omega, left.eraseIdx r, found ++ [left[r]], some (.d x), ?_, ?_, ?_, ?_, ?_⟩
    · rw [show c + ((i + 1 : Nat) : Int) = c + i + 1 by omega]
    · rw [List.length_eraseIdx_of_lt hr]
      omega
    · simp [h2]
    · exact fun y hy => h3 y (List.mem_of_mem_eraseIdx hy)
    · intro y hy
      rcases List.mem_append.mp hy with hy | hy
      · exact h4 y hy
      · cases List.mem_singleton.mp hy
        exact h3 _ (List.getElem_mem hr)
  · rintro ρ ⟨left, found, x5, rfl, h1, h2, h3, h4⟩
    have e : (rngD 0 (q : Int).toNat).length = q := by simp [rngD]
    rw [e] at h1 h2 ⊢
    exact ⟨_, rfl, k found _ h4 (by omega) (by omega)⟩
/-! ### any document -/
def flats : List PyData := [.none, .bool true, .bool false, .int 0, .int 1, .int (-1), .int 2, .int 3, .str "a", .str "b", .str "one", .str "two", .str "", .str "q\"\\", .str "x: -, {"]
def flds : List PyData := [.str "x", .str "y", .str "k", .str "t", .str "abcdefgh"]
def FFlat : DP := fun c ds Kk => ds = [] ∧ c < 1000000 ∧ ∀ d ∈ flats, Kk d (c + 1)
theorem ok_flat (T : Tx P K mg) : FnOk P w K mg base CX0 3 T.a__law_flat T.fd__law_flat ["_law_pot_here"] (spP FFlat) := by
  have G__law_of := okP_of (w := w) (base := base) T
  refine Dw.okP T.F__law_flat sc__law_flat (by decide) (fun c ds Kk h => ?_) (fun cdv A outer s H E p c ds Kk hr h => ⟨_, _, (pss_one (ps_ret (pe_call G__law_of (hr.mono (by first | decide | omega)) (by rfl) T.m__law_of T.F__law_of.kp T.b__law_of .nil pass0 (pa_cons (pv 0) (pa_cons (pe_fz (pe_lst (pa_cons pe_non (pa_cons pe_bl (pa_cons pe_bl (pa_cons pe_int (pa_cons pe_int (pa_cons (pe_un dNeg pe_int) (pa_cons pe_int (pa_cons pe_int (pa_cons pe_str (pa_cons pe_str (pa_cons pe_str (pa_cons pe_str (pa_cons pe_str (pa_cons pe_str (pa_cons pe_str pa_nil))))))))))))))))) pa_nil))))), inferInstance, ?_⟩)
  · obtain ⟨rfl, _⟩ := h
    rfl
  obtain ⟨rfl, hc, k⟩ := h
  walk_at "d"
  exact ⟨⟨_, _, rfl, rfl⟩, _, rfl, hc, by simp, by simp only [List.length_cons, List.length_nil]; omega, k⟩
def AnyD : Nat → PyData → Prop
  | 0, d => d ∈ flats
  | n + 1, d => d ∈ flats ∨ (∃ xs, d = .list xs ∧ xs.length ≤ 2 ∧ ∀ x ∈ xs, AnyD n x) ∨ ∃ acc : List (Str × PyData), d = .dict (strP (mergeP [] acc)) ∧ acc.length ≤ 3 ∧ ∀ p ∈ acc, .str p.1 ∈ flds ∧ AnyD n p.2
def bAny : Nat → Nat
  | 0 => 1
  | n + 1 => 5 + 3 * bAny n
theorem pairs_of {n : Nat} : ∀ {ds : List PyData}, (∀ d ∈ ds, ∃ (f : Str) (e : PyData), d = .tuple [.str f, e] ∧ .str f ∈ flds ∧ AnyD n e) → ∃ acc : List (Str × PyData), ds = pairsP acc ∧ acc.length = ds.length ∧ ∀ p ∈ acc, .str p.1 ∈ flds ∧ AnyD n p.2
  | [], _ => ⟨[], rfl, rfl, fun _ h => by simp at h⟩
  | d :: ds, h => by
    obtain ⟨f, e, rfl, h1, h2⟩ := h d List.mem_cons_self
    obtain ⟨acc, rfl, hl, k⟩ := pairs_of fun d m => h d (List.mem_cons_of_mem _ m)
    refine ⟨(f, e) :: acc, rfl, by simp [hl], fun p hp => ?_⟩
    rcases List.mem_cons.mp hp with rfl | hp
    · exact ⟨h1, h2⟩
    · exact k p hp
theorem flds_str {d : PyData} (h : d ∈ flds) : ∃ f, d = .str f := by
  unfold flds at h
  simp only [List.mem_cons, List.not_mem_nil, or_false] at h
  rcases h with rfl | rfl | rfl | rfl | rfl <;> exact ⟨_, rfl⟩
def FAny (n : Nat) : DP := fun c ds Kk => ∃ m : Nat, m < n ∧ ds = [.int m] ∧ c + bAny m < 1000000 ∧ ∀ d (c' : Int), AnyD m d → c' ≤ c + bAny m → Kk d c'
theorem any_step (T : Tx P K mg) {n : Nat} (G__law_any : FnOk P w K mg base CX0 (n + 3) T.a__law_any T.fd__law_any ["_law_pot_here", "_law_deep"] (spP (FAny n))) : FnOk P w K mg base CX0 (n + 4) T.a__law_any T.fd__law_any ["_law_pot_here", "_law_deep"] (spP (FAny (n + 1))) := by
  have G__law_take := okP_take (w := w) (base := base) T
  have G__law_unlike := ok_unl (w := w) (base := base) T
  have G__law_flat := ok_flat (w := w) (base := base) T
  refine Dw.okP T.F__law_any sc__law_any (by decide) (fun c ds Kk h => ?_) (fun cdv A outer s H E p c ds Kk hr h => ⟨_, _, (pss_cons (ps_set (i := 2) sc__law_any.nd rfl (Or.inl rfl) (pe_ifExp (pt_cmpR dGt (pv 1) pe_int (nomark _)) (pe_call G__law_take (hr.mono (by first | decide | omega)) (by rfl) T.m__law_take T.F__law_take.kp T.b__law_take .nil pass0 (pa_cons (pv 0) (pa_cons pe_int pa_nil))) pe_int))
      (pss_cons (ps_if (pt_cmpR dLt (pv 2) pe_int (nomark _)) (pss_one (ps_ret (pe_call G__law_flat (hr.mono (by first | decide | omega)) (by rfl) T.m__law_flat T.F__law_flat.kp T.b__law_flat .nil pass0 (pa_cons (pv 0) pa_nil)))) pss_nil)
      (pss_cons (ps_if (pt_cmpR dEq (pv 2) pe_int (nomark _)) (pss_one (ps_ret (pe_fz (pe_lc (own := [("_law_turn", 4)]) (g := gName 4) (tt := tYes) (by rfl) sc__law_any.nd (pi_range1 (by rfl) T.n_range (pa_cons (pe_call G__law_take (hr.mono (by first | decide | omega)) (by rfl) T.m__law_take T.F__law_take.kp T.b__law_take .nil pass0 (pa_cons (pv 0) (pa_cons pe_int pa_nil))) pa_nil)) (blkOk_by (own := [("_law_turn", 4)]) (N := ["_law_pot_here", "_law_deep", "_law_pick", "_law_fields", "_law_turn", "_law_field"]) (sc := defScope s__law_any) (by decide +kernel)) (fun _ _ _ _ _ => (pg_name (i := 4) sc__law_any.nd rfl (Or.inl rfl))) (fun _ _ _ _ _ => pts_nil) (fun _ _ _ _ _ => (pe_call G__law_any (hr.mono (by first | decide | omega)) (by rfl) T.m__law_any T.F__law_any.kp T.b__law_any .nil pass0 (pa_cons (pv 0) (pa_cons (pe_op dSub (pv 1) pe_int) pa_nil)))))))) pss_nil)
      (pss_cons (ps_set (i := 3) sc__law_any.nd rfl (Or.inl rfl) (pe_call G__law_unlike (hr.mono (by first | decide | omega)) (by rfl) T.m__law_unlike T.F__law_unlike.kp T.b__law_unlike .nil pass0 (pa_cons (pv 0) (pa_cons (pe_fz (pe_lst (pa_cons pe_str (pa_cons pe_str (pa_cons pe_str (pa_cons pe_str (pa_cons pe_str pa_nil))))))) (pa_cons (pe_call G__law_take (hr.mono (by first | decide | omega)) (by rfl) T.m__law_take T.F__law_take.kp T.b__law_take .nil pass0 (pa_cons (pv 0) (pa_cons pe_int pa_nil))) pa_nil)))))
      (pss_one (ps_ret (pe_fz (pe_callTy (dDictP rfl) (by rfl) T.n_dict PyProof.Rows.Boot.«dict» (pa_cons (pe_fz (pe_lc (own := [("_law_field", 5)]) (g := gName 5) (tt := tYes) (by rfl) sc__law_any.nd (pi_list (pv 3)) (blkOk_by (own := [("_law_field", 5)]) (N := ["_law_pot_here", "_law_deep", "_law_pick", "_law_fields", "_law_turn", "_law_field"]) (sc := defScope s__law_any) (by decide +kernel)) (fun _ _ _ _ _ => (pg_name (i := 5) sc__law_any.nd rfl (Or.inl rfl))) (fun _ _ _ _ _ => pts_nil) (fun _ _ _ _ _ => (pe_tup (pa_cons (pv 5) (pa_cons (pe_call G__law_any (hr.mono (by first | decide | omega)) (by rfl) T.m__law_any T.F__law_any.kp T.b__law_any .nil pass0 (pa_cons (pv 0) (pa_cons (pe_op dSub (pv 1) pe_int) pa_nil))) pa_nil)))))) pa_nil))))))))), inferInstance, ?_⟩)
  · obtain ⟨m, _, rfl, _⟩ := h
    rfl
  obtain ⟨m, hm, rfl, hc, k⟩ := h
  walk_at "d"
  cases m with
  | zero =>
    rw [if_neg (by decide), if_pos (by decide)]
    exact ⟨⟨_, _, rfl, rfl⟩, rfl, by simp only [bAny] at hc; omega, fun d hd => k d _ hd (by simp [bAny])⟩
  | succ m =>
    simp only [bAny] at hc k
    rw [if_pos (by simp)]
    refine ⟨⟨_, _, rfl, rfl⟩, 4, rfl, by omega, by decide, by decide, fun r hr4 => ?_⟩
    simp only
    by_cases h2 : (r : Int) < 2
    · rw [if_pos (decide_eq_true h2)]
      exact ⟨⟨_, _, rfl, rfl⟩, rfl, by omega, fun d hd => k d _ (.inl hd) (by omega)⟩
    rw [if_neg (by simp only [decide_eq_true_eq]; exact h2)]
    by_cases h3 : r = 2
    · subst h3
      rw [if_pos (by decide)]
      refine ⟨⟨_, _, rfl, rfl⟩, 3, rfl, by omega, by decide, by decide, fun r hr3 => ?_⟩
      simp only
      refine ⟨⟨by omega, by omega⟩, ?_⟩
      have hl : (rngD 0 (r : Int).toNat).length = r := by simp [rngD]
      refine lc_draw (fun i ρ => ∃ c2 : Int, ρ = [some (.pot p c2), some (.d (.int ((m + 1 : Nat) : Int))), some (.d (.int ((2 : Nat) : Int))), none, none, none] ∧ c2 ≤ c + 2 + ((i * bAny m : Nat) : Int)) (AnyD m) ⟨c + 1 + 1, rfl, by omega⟩ (fun i x ρ hx ha Q hQ => ?_) (fun ds ρ h1 h2 h3 => ?_) (by omega)
      · obtain ⟨c2, rfl, hc2⟩ := ha
        have hi := (List.getElem?_eq_some_iff.mp hx).1
        have hib : i * bAny m ≤ 1 * bAny m := Nat.mul_le_mul_right _ (by omega)
        walk_at "d"
        refine ⟨⟨_, _, rfl, rfl⟩, m, by omega, by rw [show ((m + 1 : Nat) : Int) - 1 = (m : Int) by omega], by omega, fun d c' hd hc' => hQ d _ hd ⟨c', rfl, ?_⟩⟩
        rw [Nat.add_mul]
        omega
      · obtain ⟨c2, rfl, hc2⟩ := h3
        rw [hl] at h1 hc2
        have hib : r * bAny m ≤ 2 * bAny m := Nat.mul_le_mul_right _ (by omega)
        exact ⟨c2, rfl, k _ _ (.inr (.inl ⟨ds, rfl, by omega, h2⟩)) (by omega)⟩
    · rw [if_neg (by simp only [decide_eq_true_eq]; omega)]
      refine ⟨⟨_, _, rfl, rfl⟩, ⟨_, _, rfl, rfl⟩, 4, rfl, by omega, by decide, by decide, fun t ht => ?_⟩
      refine ⟨flds, t, rfl, by omega, by decide, fun ys c3 hy hyl hc3 => ?_⟩
      simp only
      refine lc_draw (fun i ρ => ∃ c2 : Int, ρ = [some (.pot p c2), some (.d (.int ((m + 1 : Nat) : Int))), some (.d (.int (r : Int))), some (.d (.list ys)), none, none] ∧ c2 ≤ c + 5 + ((i * bAny m : Nat) : Int)) (fun d => ∃ (f : Str) (e : PyData), d = .tuple [.str f, e] ∧ .str f ∈ flds ∧ AnyD m e) ⟨c3, rfl, by omega⟩ (fun i x ρ hx ha Q hQ => ?_) (fun ds ρ h1 h2 h3 => ?_) (by omega)
      · obtain ⟨c2, rfl, hc2⟩ := ha
        have hi := (List.getElem?_eq_some_iff.mp hx).1
        have hib : i * bAny m ≤ 2 * bAny m := Nat.mul_le_mul_right _ (by omega)
        have hxf := hy x (List.mem_of_getElem? hx)
        obtain ⟨f, rfl⟩ := flds_str hxf
        walk_at "d"
        refine ⟨⟨_, _, rfl, rfl⟩, m, by omega, by rw [show ((m + 1 : Nat) : Int) - 1 = (m : Int) by omega], by omega, fun d c' hd hc' => hQ _ _ ⟨f, d, rfl, hxf, hd⟩ ⟨c', rfl, ?_⟩⟩
        rw [Nat.add_mul]
        omega
      · obtain ⟨c2, rfl, hc2⟩ := h3
        have hib : ys.length * bAny m ≤ 3 * bAny m := Nat.mul_le_mul_right _ (by omega)
        obtain ⟨acc, rfl, hl, ka⟩ := pairs_of h2
        exact ⟨acc, rfl, c2, rfl, k _ _ (.inr (.inr ⟨acc, rfl, by omega, ka⟩)) (by omega)⟩
theorem ok_any (T : Tx P K mg) : ∀ n : Nat, FnOk P w K mg base CX0 (n + 3) T.a__law_any T.fd__law_any ["_law_pot_here", "_law_deep"] (spP (FAny n))
  | 0 => fn_never fun vs H Q E h => by
      obtain ⟨p, c, ds, vs', Kk, _, _, _, ⟨m, z, _⟩, _⟩ := h
      exact Nat.not_lt_zero _ z
  | n + 1 => any_step T (ok_any T n)
end
end K88
end
section
--@@ gend
set_option Elab.async false
set_option linter.all false
set_option maxRecDepth 100000
set_option maxHeartbeats 4000000
set_option synthInstance.maxHeartbeats 4000000
set_option synthInstance.maxSize 100000
namespace K88
open PySem PySem.Spec PyProof.Rows L2 Tg Dw
local macro_rules | `(tactic| walk_at "d") => `(tactic| simp only [DVar, DCon, DLock, DLockV, DCons, DNil, DOp, DOpN, DUn, DTup, DLst, DCB, DCBN, DMt, DMtN, isB, DB, DNot, DAnd, DOr, DAndV, DOrV, DNotV, DIf, DChain, DNext, DSeq, DIfS, DRet, DDrop, DSet, DSetN, GName, GNil, GCons, GTup, DAsgG, DPar, isL, isT, isS, isI, IList, ITup, IStr, IRng1, IRng2, DFor, DLc, DYes, RInt, RIntC, RStr, RCatS, eqC, REq, RNe, isNone, RIsN, RNotN, RInS, RIx, RSlS, ONone, OSome, DSl, DSlN, on1, on2, RLen, RIntOf, RIntS, RStrI, RAbs, RMin2, RMax2, RAll, RAny, NList, RTuple, RReprD, MStarts, MFind, MJoin, tyB, DIs, DIs3, DApp, DCall, DCallX, DRaise, startD, RAdd, RLe, RInX, NCat, RMulX, NSlL, DFzS, DAug, DCallP, startP, wipeD, IItems, DDGet, DDIn, NSortedD, NListD, MDict, DCBM, DParND, DParNN, DPar3N, DPar3, GPut, DPeek, DNe0, DPop, DLenO, DPar3M, flD, inF, eqF, List.length_cons, List.length_nil, List.map_cons, List.map_nil, List.replicate_succ, List.replicate_zero, List.cons_append, List.nil_append, List.getElem?_cons_zero, List.getElem?_cons_succ, List.set_cons_zero, List.set_cons_succ, Nat.reduceAdd, Nat.reduceSub, Nat.zero_add, Bool.not_true, Bool.not_false, Bool.false_eq_true, if_true, if_false, reduceIte, reduceCtorEq, beq_self_eq_true, Bool.true_or, Bool.or_true, Bool.false_or, Bool.or_false, String.reduceBEq, Option.some.injEq, false_and, and_false, exists_const, true_and, and_true, PyData.str.injEq, exists_eq', exists_eq_left', Nat.reduceLeDiff, DV.l.injEq, DV.m.injEq, DV.pot.injEq, List.all_cons, List.all_nil, List.any_cons, List.any_nil, Bool.and_self, Bool.and_true, Bool.true_and])
/-! ### texts, sorted -/
def leS (a b : Str) : Bool := !ltCps b.cps.toList a.cps.toList
theorem lt_iff (a b : List Nat) : ltCps a b = decide (a < b) := ltCps_eq a b
theorem leS_iff {a b : Str} : leS a b = true ↔ cs a ≤ cs b := by
  unfold leS
  rw [lt_iff]
  simp
def srt (ks : List Str) : List Str := ks.mergeSort leS
theorem rising_pw : ∀ {l : List Str} {p : Str}, risingS p l = true → (p :: l).Pairwise fun a b => leS a b = true
  | [], p, _ => by simp
  | x :: r, p, h => by
    simp only [risingS, Bool.and_eq_true] at h
    have ih := rising_pw h.2
    refine List.Pairwise.cons (fun b hb => ?_) ih
    have hpx : leS p x = true := h.1
    rcases List.mem_cons.mp hb with rfl | hb
    · exact hpx
    · have := List.rel_of_pairwise_cons ih hb
      rw [leS_iff] at *
      exact List.le_trans hpx this
theorem srt_is {ys ks : List Str} (p : ys.Perm ks) (h : sortedS ys = true) : ys = srt ks := by
  have h1 : ys.Pairwise fun a b => leS a b = true := by
    cases ys with
    | nil => exact .nil
    | cons y r => exact rising_pw h
  have h2 : (srt ks).Pairwise fun a b => leS a b = true := List.pairwise_mergeSort (fun a b c x y => by rw [leS_iff] at *; exact List.le_trans x y) (fun a b => by
    rw [Bool.or_eq_true, leS_iff, leS_iff]
    exact List.le_total _ _) ks
  refine List.Perm.eq_of_pairwise (le := fun a b => leS a b = true) (fun a b _ _ x y => ?_) h1 h2 (p.trans (List.mergeSort_perm ks leS).symm)
  rw [leS_iff] at *
  exact str_eq (List.le_antisymm x y)
theorem srt_perm (ks : List Str) : (srt ks).Perm ks := List.mergeSort_perm ks leS
/-! ### what a document is written as -/
def escL (c : Nat) : List Nat := if c = 34 ∨ c = 92 then [92, c] else [c]
def keyS : PyData → Str
  | .str k => k
  | _ => ""
def lookW (x : Str) : List (Str × List Nat) → List Nat
  | [] => []
  | (y, d) :: r => if y = x then d else lookW x r
mutual
def wr : PyData → List Nat
  | .none => [45]
  | .bool b => if b = true then [121, 101, 115] else [110, 111]
  | .int i => cs (Str.ofString (toString i))
  | .str z => [34] ++ TL.joinL [] ((cs z).map escL) ++ [34]
  | .list xs => [91] ++ TL.joinL [44, 32] (wrL xs) ++ [93]
  | .dict kds => [123] ++ TL.joinL [44, 32] ((srt (kds.map fun p => keyS p.1)).map fun k => cs k ++ [58, 32] ++ lookW k (wrK kds)) ++ [125]
  | .tuple _ => []
def wrL : List PyData → List (List Nat)
  | [] => []
  | d :: r => wr d :: wrL r
def wrK : List (PyData × PyData) → List (Str × List Nat)
  | [] => []
  | (k, d) :: r => (keyS k, wr d) :: wrK r
end
mutual
def wok : PyData → Bool
  | .int i => decide (i.natAbs.log2 < 1920)
  | .str z => decide (z.length ≤ 1000)
  | .list xs => decide (xs.length ≤ 1000) && wokL xs
  | .dict kds => decide (kds.length < 64) && wokK kds
  | .tuple _ => false
  | .none | .bool _ => true
def wokL : List PyData → Bool
  | [] => true
  | d :: r => wok d && wokL r
def wokK : List (PyData × PyData) → Bool
  | [] => true
  | (.str k, d) :: r => (decide (k.length ≤ 1000) && wok d) && wokK r
  | _ :: _ => false
end
theorem wokK_str : ∀ {kds : List (PyData × PyData)}, wokK kds = true → ∃ kvs : List (Str × PyData), kds = strP kvs ∧ ∀ p ∈ kvs, p.1.length ≤ 1000 ∧ wok p.2 = true ∧ p.2.depth ≤ PyData.depthKv kds
  | [], _ => ⟨[], rfl, fun _ h => by simp at h⟩
  | (.str k, d) :: r, h => by
    simp only [wokK, Bool.and_eq_true, decide_eq_true_eq] at h
    obtain ⟨kvs, rfl, q⟩ := wokK_str h.2
    refine ⟨(k, d) :: kvs, rfl, fun p hp => ?_⟩
    simp only [PyData.depthKv]
    rcases List.mem_cons.mp hp with rfl | hp
    · exact ⟨h.1.1, h.1.2, by simp only; omega⟩
    · have := q p hp
      exact ⟨this.1, this.2.1, by omega⟩
  | (.none, d) :: r, h => by simp [wokK] at h
  | (.bool _, d) :: r, h => by simp [wokK] at h
  | (.int _, d) :: r, h => by simp [wokK] at h
  | (.list _, d) :: r, h => by simp [wokK] at h
  | (.tuple _, d) :: r, h => by simp [wokK] at h
  | (.dict _, d) :: r, h => by simp [wokK] at h
theorem wokL_get : ∀ {ds : List PyData} {d : PyData}, wokL ds = true → d ∈ ds → wok d = true ∧ d.depth ≤ PyData.depthAll ds
  | e :: ds, d, h, m => by
    simp only [wokL, Bool.and_eq_true] at h
    simp only [PyData.depthAll]
    rcases List.mem_cons.mp m with rfl | m
    · exact ⟨h.1, by omega⟩
    · have := wokL_get h.2 m
      exact ⟨this.1, by omega⟩
theorem wrL_map : ∀ ds : List PyData, wrL ds = ds.map wr
  | [] => rfl
  | d :: r => by rw [wrL, wrL_map r]; rfl
theorem look_wr {x : Str} : ∀ {kvs : List (Str × PyData)} {d : PyData}, lookP x kvs = some d → lookW x (wrK (strP kvs)) = wr d
  | (y, e) :: r, d, h => by
    unfold lookP at h
    show (if y = x then wr e else lookW x (wrK (strP r))) = wr d
    by_cases q : y = x
    · rw [if_pos q] at h ⊢
      cases h
      rfl
    · rw [if_neg q] at h ⊢
      exact look_wr h
theorem look_mem {x : Str} : ∀ {kvs : List (Str × PyData)}, x ∈ kvs.map (·.1) → ∃ d, lookP x kvs = some d ∧ (x, d) ∈ kvs
  | (y, e) :: r, h => by
    unfold lookP
    by_cases q : y = x
    · rw [if_pos q]
      exact ⟨e, rfl, by rw [q]; exact List.mem_cons_self⟩
    · rw [if_neg q]
      have : x ∈ r.map (·.1) := by
        rcases List.mem_cons.mp h with z | z
        · exact absurd z.symm q
        · exact z
      obtain ⟨d, h1, h2⟩ := look_mem this
      exact ⟨d, h1, List.mem_cons_of_mem _ h2⟩
theorem keys_strP (kvs : List (Str × PyData)) : ((strP kvs).map fun p => keyS p.1) = kvs.map (·.1) := by
  unfold strP
  rw [List.map_map]
  rfl
/-! ### joined -/
theorem join_mem {a : List Nat} : ∀ {ys : List (List Nat)} {y : List Nat}, y ∈ ys → y.length ≤ (TL.joinL a ys).length
  | [x], y, h => by
    cases List.mem_singleton.mp h
    exact Nat.le_refl _
  | x :: z :: r, y, h => by
    show _ ≤ (x ++ (a ++ TL.joinL a (z :: r))).length
    rw [List.length_append, List.length_append]
    rcases List.mem_cons.mp h with rfl | h
    · omega
    · have := join_mem (a := a) h
      omega
theorem join_sum {a : List Nat} : ∀ (ys : List (List Nat)), (ys.map List.length).sum ≤ (TL.joinL a ys).length
  | [] => Nat.zero_le _
  | [x] => by simp [TL.joinL]
  | x :: z :: r => by
    show _ ≤ (x ++ (a ++ TL.joinL a (z :: r))).length
    have := join_sum (a := a) (z :: r)
    rw [List.length_append, List.length_append, List.map_cons, List.sum_cons]
    omega
theorem join_cnt {a : List Nat} (p : Nat → Bool) : ∀ (ys : List (List Nat)), (TL.joinL a ys).countP p ≤ (ys.map (List.countP p)).sum + ys.length * a.countP p
  | [] => by simp [TL.joinL]
  | [x] => by simp [TL.joinL]
  | x :: z :: r => by
    show (x ++ (a ++ TL.joinL a (z :: r))).countP p ≤ _
    have := join_cnt (a := a) p (z :: r)
    rw [List.countP_append, List.countP_append, List.map_cons, List.sum_cons, List.length_cons, Nat.add_mul]
    omega
theorem join_ofL (a : Str) (l : List (List Nat)) : Txt.join a (l.map ofL) = ofL (TL.joinL (cs a) l) := by
  apply str_eq
  rw [TL.join_eq]
  show TL.tl (Str.join _ _) = _
  rw [TL.tl_join, List.map_map]
  have : (TL.tl ∘ ofL) = (id : List Nat → List Nat) := funext fun l => rfl
  rw [this, List.map_id]
  rfl
theorem app_ofL (a b : List Nat) : ofL a ++ ofL b = ofL (a ++ b) := by
  apply str_eq
  show ((ofL a).cps ++ (ofL b).cps).toList = a ++ b
  rw [Array.toList_append]
  rfl
theorem len_ofL (a : List Nat) : (ofL a).length = a.length := rfl
section
variable {P : Program} {w : World} {K : PySem.W.Frag} {mg : Str → Option Value} {base : Heap}
def FWrit (n : Nat) : DF := fun ds Kk => ∃ d, ds = [d] ∧ wok d = true ∧ d.depth < n ∧ (wr d).length ≤ 1000000 ∧ Kk (.str (ofL (wr d)))
theorem writ_step (T : Tx P K mg) {n : Nat} (G__law_writ : FnOk P w K mg base CX0 (n + 1) T.a__law_writ T.fd__law_writ ["_law_document"] (spD (FWrit n))) : FnOk P w K mg base CX0 (n + 2) T.a__law_writ T.fd__law_writ ["_law_document"] (spD (FWrit (n + 1))) := by
  refine Dw.okD T.F__law_writ sc__law_writ (fun ds Kk h => ?_) (fun cdv A outer s H E ds Kk hr h => ⟨_, _, (pss_cons (ps_if (pt_cmpR dIsN (pv 0) pe_non (nomark _)) (pss_one (ps_ret pe_str)) pss_nil)
      (pss_cons (ps_if (pt_val (pe_callB call_isD (by rfl) T.n_isinstance PyProof.Rows.Boot.«isinstance» (pa_cons (pv 0) (pa_cons (pe_bltn (v := .ty "bool") (by rfl) T.n_bool PyProof.Rows.Boot.«bool» rfl) pa_nil)))) (pss_one (ps_ret (pe_ifExp (pt_val (pv 0)) pe_str pe_str))) pss_nil)
      (pss_cons (ps_if (pt_val (pe_callB call_isD (by rfl) T.n_isinstance PyProof.Rows.Boot.«isinstance» (pa_cons (pv 0) (pa_cons (pe_bltn (v := .ty "int") (by rfl) T.n_int PyProof.Rows.Boot.«int» rfl) pa_nil)))) (pss_one (ps_ret (pe_callTy dStrI (by rfl) T.n_str PyProof.Rows.Boot.«str» (pa_cons (pv 0) pa_nil)))) pss_nil)
      (pss_cons (ps_if (pt_val (pe_callB call_isD (by rfl) T.n_isinstance PyProof.Rows.Boot.«isinstance» (pa_cons (pv 0) (pa_cons (pe_bltn (v := .ty "str") (by rfl) T.n_str PyProof.Rows.Boot.«str» rfl) pa_nil)))) (pss_one (ps_ret (pe_op dAddX (pe_op dAddX pe_str (pe_bm PySem.F.plainAttrs_str PySem.F.slot_str_join PySem.F.type_str_join mJoin pe_str (pa_cons (pe_fz (pe_lc (own := [("_law_sign", 2)]) (g := gName 2) (tt := tYes) (by rfl) sc__law_writ.nd (pi_str (pv 0)) (blkOk_by (own := [("_law_sign", 2)]) (N := ["_law_document", "_law_field", "_law_sign", "_law_part_here"]) (sc := defScope s__law_writ) (by decide +kernel)) (fun _ _ _ _ _ => (pg_name (i := 2) sc__law_writ.nd rfl (Or.inl rfl))) (fun _ _ _ _ _ => pts_nil) (fun _ _ _ _ _ => (pe_op dAddX (pe_op dMulX pe_str (pe_callTy dIntOf (by rfl) T.n_int PyProof.Rows.Boot.«int» (pa_cons (pe_cmpR dInX (pv 2) pe_str (by rfl)) pa_nil))) (pv 2))))) pa_nil))) pe_str))) pss_nil)
      (pss_cons (ps_if (pt_val (pe_callB call_isD (by rfl) T.n_isinstance PyProof.Rows.Boot.«isinstance» (pa_cons (pv 0) (pa_cons (pe_bltn (v := .ty "list") (by rfl) T.n_list PyProof.Rows.Boot.«list» rfl) pa_nil)))) (pss_one (ps_ret (pe_op dAddX (pe_op dAddX pe_str (pe_bm PySem.F.plainAttrs_str PySem.F.slot_str_join PySem.F.type_str_join mJoin pe_str (pa_cons (pe_fz (pe_lc (own := [("_law_part_here", 3)]) (g := gName 3) (tt := tYes) (by rfl) sc__law_writ.nd (pi_list (pv 0)) (blkOk_by (own := [("_law_part_here", 3)]) (N := ["_law_document", "_law_field", "_law_sign", "_law_part_here"]) (sc := defScope s__law_writ) (by decide +kernel)) (fun _ _ _ _ _ => (pg_name (i := 3) sc__law_writ.nd rfl (Or.inl rfl))) (fun _ _ _ _ _ => pts_nil) (fun _ _ _ _ _ => (pe_call G__law_writ (hr.mono (by first | decide | omega)) (by rfl) T.m__law_writ T.F__law_writ.kp T.b__law_writ .nil pass0 (pa_cons (pv 3) pa_nil))))) pa_nil))) pe_str))) pss_nil)
      (pss_one (ps_ret (pe_op dAddX (pe_op dAddX pe_str (pe_bm PySem.F.plainAttrs_str PySem.F.slot_str_join PySem.F.type_str_join mJoin pe_str (pa_cons (pe_fz (pe_lc (own := [("_law_field", 1)]) (g := gName 1) (tt := tYes) (by rfl) sc__law_writ.nd (pi_list (pe_fz (pe_callB (dSortedD rfl) (by rfl) T.n_sorted PyProof.Rows.Boot.«sorted» (pa_cons (pv 0) pa_nil)))) (blkOk_by (own := [("_law_field", 1)]) (N := ["_law_document", "_law_field", "_law_sign", "_law_part_here"]) (sc := defScope s__law_writ) (by decide +kernel)) (fun _ _ _ _ _ => (pg_name (i := 1) sc__law_writ.nd rfl (Or.inl rfl))) (fun _ _ _ _ _ => pts_nil) (fun _ _ _ _ _ => (pe_op dAddX (pe_op dAddX (pv 1) pe_str) (pe_call G__law_writ (hr.mono (by first | decide | omega)) (by rfl) T.m__law_writ T.F__law_writ.kp T.b__law_writ .nil pass0 (pa_cons (pe_dget (hu_of hr) (pv 0) (pv 1) (fun _ _ => rfl)) pa_nil)))))) pa_nil))) pe_str)))))))), inferInstance, ?_⟩)
  · obtain ⟨d, rfl, _⟩ := h
    rfl
  obtain ⟨d, rfl, hf, hd, hw, k⟩ := h
  cases d with
  | none =>
    walk_at "d"
    exact k
  | bool b =>
    walk_at "d"
    cases b <;> exact k
  | int i =>
    simp only [wok, decide_eq_true_eq] at hf
    walk_at "d"
    exact ⟨hf, k⟩
  | tuple xs => cases hf
  | str z =>
    simp only [wok, decide_eq_true_eq] at hf
    walk_at "d"
    refine lc_map (fun d => .str (match d with
      | .str x => ofL (TL.joinL [] ((cs x).map escL))
      | _ => "")) (fun i y hy Q hQ => ?_) ?_ (by unfold chars; rw [List.length_map]; show z.length ≤ _; omega)
    · unfold chars at hy
      rw [List.getElem?_map] at hy
      cases q : z.cps.toList[i]? with
      | none => rw [q] at hy; cases hy
      | some c =>
        rw [q] at hy
        cases hy
        walk_at "d"
        simp only [cs] at hQ
        have hj : TL.joinL [] ([c].map escL) = escL c := rfl
        have em : (c ∈ (Str.ofString "\"\\").cps.toList) ↔ (c = 34 ∨ c = 92) := by
          rw [show (Str.ofString "\"\\").cps.toList = [34, 92] from by decide +kernel]
          simp
        refine ⟨c, rfl, ?_⟩
        by_cases h : c = 34 ∨ c = 92
        · rw [decide_eq_true (em.mpr h)]
          refine ⟨.inr rfl, by decide, by show _ + 1 ≤ _; decide, ?_⟩
          have e2 : ofL (TL.joinL [] ((#[c] : Array Nat).toList.map escL)) = Str.ofString "\\" ++ ⟨#[c]⟩ := by
            show ofL (escL c) = _
            rw [escL, if_pos h, show Str.ofString "\\" = ofL [92] from by decide +kernel]
            exact (app_ofL [92] [c]).symm
          rw [e2] at hQ
          exact hQ _ rfl
        · rw [decide_eq_false (fun z => h (em.mp z))]
          refine ⟨.inl rfl, by decide, by show _ + 1 ≤ _; decide, ?_⟩
          have e2 : ofL (TL.joinL [] ((#[c] : Array Nat).toList.map escL)) = Str.ofString "" ++ ⟨#[c]⟩ := by
            show ofL (escL c) = _
            rw [escL, if_neg h, show Str.ofString "" = ofL [] from by decide +kernel]
            exact (app_ofL [] [c]).symm
          rw [e2] at hQ
          exact hQ _ rfl
    · walk_at "d"
      have e : (chars z).map (fun d => PyData.str (match d with
        | .str x => ofL (TL.joinL [] ((cs x).map escL))
        | _ => "")) = (((cs z).map escL).map ofL).map PyData.str := by
        unfold chars
        rw [List.map_map, List.map_map, List.map_map]
        rfl
      have hq : Str.ofString "\"" = ofL [34] := by decide +kernel
      simp only [wr, List.length_append] at hw
      have hs := join_sum (a := []) ((cs z).map escL)
      refine ⟨_, e, ?_, ?_⟩
      · rw [List.map_map, show ((fun x : Str => x.length) ∘ ofL) = List.length from funext fun l => rfl, show (Str.ofString "").length = 0 from by decide]
        omega
      · rw [join_ofL, hq, app_ofL, app_ofL, len_ofL, len_ofL, len_ofL, List.length_append]
        refine ⟨?_, ?_, k⟩ <;> simp only [List.length_cons, List.length_nil] at hw ⊢ <;> (rw [show cs (Str.ofString "") = [] from by decide +kernel]; omega)
  | list xs =>
    simp only [wok, Bool.and_eq_true, decide_eq_true_eq] at hf
    simp only [PyData.depth] at hd
    simp only [wr, List.length_append, wrL_map] at hw k
    have hs := join_sum (a := [44, 32]) (xs.map wr)
    walk_at "d"
    refine lc_map (fun d => .str (ofL (wr d))) (fun i y hy Q hQ => ?_) ?_ (by omega)
    · have hm := List.mem_of_getElem? hy
      obtain ⟨h1, h2⟩ := wokL_get hf.2 hm
      have h3 := join_mem (a := [44, 32]) (List.mem_map_of_mem (f := wr) hm)
      walk_at "d"
      exact ⟨y, rfl, h1, by omega, by omega, hQ _ rfl⟩
    · walk_at "d"
      refine ⟨(xs.map wr).map ofL, by rw [List.map_map, List.map_map]; rfl, ?_, ?_⟩
      · rw [List.map_map, show ((fun x : Str => x.length) ∘ ofL) = List.length from funext fun l => rfl, show (Str.ofString ", ").length = 2 from by decide]
        simp only [List.length_map]
        omega
      · rw [join_ofL, show Str.ofString "[" = ofL [91] from by decide +kernel, show Str.ofString "]" = ofL [93] from by decide +kernel, app_ofL, app_ofL, len_ofL, len_ofL, len_ofL, len_ofL, List.length_append, show cs (Str.ofString ", ") = [44, 32] from by decide +kernel]
        simp only [List.length_cons, List.length_nil] at hw ⊢
        exact ⟨by omega, by omega, k⟩
  | dict kds =>
    simp only [wok, Bool.and_eq_true, decide_eq_true_eq] at hf
    simp only [PyData.depth] at hd
    obtain ⟨kvs, rfl, hk⟩ := wokK_str hf.2
    simp only [wr, List.length_append, keys_strP] at hw k
    have hl : kvs.length < 64 := by
      have := hf.1
      unfold strP at this
      rwa [List.length_map] at this
    generalize hf1 : (fun k => cs k ++ [58, 32] ++ lookW k (wrK (strP kvs))) = f at hw k
    have hs := join_sum (a := [44, 32]) ((srt (kvs.map (·.1))).map f)
    walk_at "d"
    refine ⟨kvs, rfl, hl, fun ys pm so => ?_⟩
    have ey := srt_is pm so
    have yl : ys.length = kvs.length := by rw [pm.length_eq, List.length_map]
    refine lc_map (fun d => .str (ofL (f (keyS d)))) (fun i y hy Q hQ => ?_) ?_ (by rw [List.length_map]; omega)
    · rw [List.getElem?_map] at hy
      cases q : ys[i]? with
      | none => rw [q] at hy; cases hy
      | some x =>
        rw [q] at hy
        cases hy
        have hm := List.mem_of_getElem? q
        obtain ⟨d, h1, h2⟩ := look_mem (pm.subset hm)
        obtain ⟨g1, g2, g3⟩ := hk _ h2
        have h3 := join_mem (a := [44, 32]) (List.mem_map_of_mem (f := f) (ey ▸ hm))
        have ex : f x = cs x ++ [58, 32] ++ wr d := by rw [← hf1]; simp only; rw [look_wr h1]
        rw [ex, List.length_append, List.length_append] at h3
        simp only at g1 g2 g3
        walk_at "d"
        refine ⟨by rw [show (Str.ofString ": ").length = 2 from by decide]; omega, kvs, rfl, d, h1, d, rfl, g2, by omega, by omega, ?_⟩
        have e1 : x ++ Str.ofString ": " = ofL (cs x ++ [58, 32]) := by
          rw [show Str.ofString ": " = ofL [58, 32] from by decide +kernel, ← app_ofL]
          rfl
        simp only [keyS, ex] at hQ
        rw [e1]
        refine ⟨?_, ?_⟩
        · rw [len_ofL, len_ofL, List.length_append]
          simp only [List.length_cons, List.length_nil] at hw h3 ⊢
          omega
        · rw [app_ofL]
          exact hQ _ rfl
    · walk_at "d"
      subst ey
      refine ⟨((srt (kvs.map (·.1))).map f).map ofL, by rw [List.map_map, List.map_map, List.map_map]; rfl, ?_, ?_⟩
      · rw [List.map_map, show ((fun x : Str => x.length) ∘ ofL) = List.length from funext fun l => rfl, show (Str.ofString ", ").length = 2 from by decide]
        simp only [List.length_map] at yl ⊢
        omega
      · rw [join_ofL, show Str.ofString "{" = ofL [123] from by decide +kernel, show Str.ofString "}" = ofL [125] from by decide +kernel, app_ofL, app_ofL, len_ofL, len_ofL, len_ofL, len_ofL, List.length_append, show cs (Str.ofString ", ") = [44, 32] from by decide +kernel]
        simp only [List.length_cons, List.length_nil] at hw ⊢
        exact ⟨by omega, by omega, k⟩
theorem ok_writ (T : Tx P K mg) : ∀ n : Nat, FnOk P w K mg base CX0 (n + 1) T.a__law_writ T.fd__law_writ ["_law_document"] (spD (FWrit n))
  | 0 => fn_never fun vs H Q E h => by
      obtain ⟨ds, Kk, r, ⟨d, _, _, z, _⟩, _⟩ := h
      exact Nat.not_lt_zero _ z
  | n + 1 => writ_step T (ok_writ T n)
end
end K88
end
section
--@@ gend
set_option Elab.async false
set_option linter.all false
set_option maxRecDepth 100000
set_option maxHeartbeats 4000000
set_option synthInstance.maxHeartbeats 4000000
set_option synthInstance.maxSize 100000
namespace K88
open PySem PySem.Spec PyProof.Rows L2 Tg Dw
local macro_rules | `(tactic| walk_at "d") => `(tactic| simp only [DVar, DCon, DLock, DLockV, DCons, DNil, DOp, DOpN, DUn, DTup, DLst, DCB, DCBN, DMt, DMtN, isB, DB, DNot, DAnd, DOr, DAndV, DOrV, DNotV, DIf, DChain, DNext, DSeq, DIfS, DRet, DDrop, DSet, DSetN, GName, GNil, GCons, GTup, DAsgG, DPar, isL, isT, isS, isI, IList, ITup, IStr, IRng1, IRng2, DFor, DLc, DYes, RInt, RIntC, RStr, RCatS, eqC, REq, RNe, isNone, RIsN, RNotN, RInS, RIx, RSlS, ONone, OSome, DSl, DSlN, on1, on2, RLen, RIntOf, RIntS, RStrI, RAbs, RMin2, RMax2, RAll, RAny, NList, RTuple, RReprD, MStarts, MFind, MJoin, tyB, DIs, DIs3, DApp, DCall, DCallX, DRaise, startD, RAdd, RLe, RInX, NCat, RMulX, NSlL, DFzS, DAug, DCallP, startP, wipeD, IItems, DDGet, DDIn, NSortedD, NListD, MDict, DCBM, DParND, DParNN, DPar3N, DPar3, GPut, DPeek, DNe0, DPop, DLenO, DPar3M, flD, inF, eqF, List.length_cons, List.length_nil, List.map_cons, List.map_nil, List.replicate_succ, List.replicate_zero, List.cons_append, List.nil_append, List.getElem?_cons_zero, List.getElem?_cons_succ, List.set_cons_zero, List.set_cons_succ, Nat.reduceAdd, Nat.reduceSub, Nat.zero_add, Bool.not_true, Bool.not_false, Bool.false_eq_true, if_true, if_false, reduceIte, reduceCtorEq, beq_self_eq_true, Bool.true_or, Bool.or_true, Bool.false_or, Bool.or_false, String.reduceBEq, Option.some.injEq, false_and, and_false, exists_const, true_and, and_true, PyData.str.injEq, exists_eq', exists_eq_left', Nat.reduceLeDiff, DV.l.injEq, DV.m.injEq, DV.pot.injEq, List.all_cons, List.all_nil, List.any_cons, List.any_nil, Bool.and_self, Bool.and_true, Bool.true_and])
theorem str_one {s : String} {d c : Nat} (h : Str.ofString s = ofL [d]) : (Str.ofString s == ofL [c]) = decide (c = d) := by
  rw [h, Bool.eq_iff_iff, beq_iff_eq, decide_eq_true_eq]
  constructor
  · intro q
    have := congrArg cs q
    exact (List.head_eq_of_cons_eq this).symm
  · intro q
    rw [q]
section
variable {P : Program} {w : World} {K : PySem.W.Frag} {mg : Str → Option Value} {base : Heap}
theorem ok_lstr (T : Tx P K mg) : FnOk P w K mg base CX0 1 T.a__law_string T.fd__law_string ["_law_text", "_law_at"] (spD FStr) := by
  refine Dw.okD T.F__law_string sc__law_string (fun ds Kk h => ?_) (fun cdv A outer s H E ds Kk hr h => ⟨_, _, (pss_cons (ps_par (i := 2) (j := 1) (by rfl) sc__law_string.nd rfl rfl (by decide) rfl rfl (pa_cons pe_str (pa_cons (pe_op dAddX (pv 1) pe_int) pa_nil)) (by rfl))
      (pss_cons (ps_while PassesOwn.never (PW.pt (pw_and (pt_cmpR dLt (pv 1) (pe_callB dLen (by rfl) T.n_len PyProof.Rows.Boot.«len» (pa_cons (pv 0) pa_nil)) (nomark _)) (pw_and1 (pt_cmpR dNe (pe_ix dIx (pv 0) (pv 1) (fun _ _ => rfl)) pe_str (nomark _))))) (pss_cons (ps_set (i := 3) sc__law_string.nd rfl (Or.inl rfl) (pe_callTy dIntOf (by rfl) T.n_int PyProof.Rows.Boot.«int» (pa_cons (pe_cmpR dEq (pe_ix dIx (pv 0) (pv 1) (fun _ _ => rfl)) pe_str (nomark _)) pa_nil)))
      (pss_cons (ps_if (PW.pt (pw_and (pt_cmpR dEq (pv 3) pe_int (nomark _)) (pw_and1 (pt_cmpR dNotInX (pe_slice dSlS (pv 0) (po_some (pe_op dAddX (pv 1) pe_int)) (po_some (pe_op dAddX (pv 1) pe_int))) (pe_tup (pa_cons pe_str (pa_cons pe_str pa_nil))) (by rfl))))) (pss_one (ps_ret pe_non)) pss_nil)
      (pss_cons (ps_set (i := 2) sc__law_string.nd rfl (Or.inl rfl) (pe_op dAddX (pv 2) (pe_ix dIx (pv 0) (pe_op dAddX (pv 1) (pv 3)) (fun _ _ => rfl))))
      (pss_one (ps_set (i := 1) sc__law_string.nd rfl (Or.inl rfl) (pe_op dAddX (pe_op dAddX (pv 1) (pv 3)) pe_int)))))))
      (pss_one (ps_ret (pe_ifExp (pt_cmpR dLt (pv 1) (pe_callB dLen (by rfl) T.n_len PyProof.Rows.Boot.«len» (pa_cons (pv 0) pa_nil)) (nomark _)) (pe_tup (pa_cons (pv 2) (pa_cons (pe_op dAddX (pv 1) pe_int) pa_nil))) pe_non))))), inferInstance, ?_⟩)
  · obtain ⟨z, i, rfl, _⟩ := h
    rfl
  obtain ⟨z, i, rfl, hz, hi, k⟩ := h
  walk_at "d"
  refine DWhile.by_ (fun n ρ => ∃ (j : Nat) (acc : List Nat) (x3 : Option DV), ρ = [some (.d (.str z)), some (.d (.int j)), some (.d (.str (ofL acc))), x3] ∧ i + 1 ≤ j ∧ j ≤ z.length ∧ n = z.length - j ∧ acc.length ≤ j ∧
    strG ((cs z).drop (i + 1)) = (strG ((cs z).drop j)).map fun p => (acc ++ p.1, j - (i + 1) + p.2)) _ ⟨i + 1, [], none, rfl, Nat.le_refl _, by omega, rfl, Nat.zero_le _, ?_⟩ ?_
  · simp
  rintro n ρ ⟨j, acc, x3, rfl, hij, hj, rfl, ha, e⟩
  walk_at "d"
  refine ⟨by omega, ?_⟩
  by_cases h : j < z.length
  · rw [if_pos (by simp; omega)]
    have hc : (cs z)[j]? = some ((cs z)[j]'(by rw [len_cs]; exact h)) := List.getElem?_eq_getElem _
    generalize (cs z)[j]'(by rw [len_cs]; exact h) = c at hc
    refine ⟨by omega, c, at_nat hc, ?_⟩
    rw [one_eq (d := 34) (by decide +kernel)]
    by_cases h34 : c = 34
    · subst h34
      rw [drop_at hc] at e
      simp only [strG, Option.map_some, List.append_nil] at e
      rw [if_neg (by simp)]
      refine ⟨by omega, ?_⟩
      rw [if_pos (by simp; omega)]
      unfold strAt at k
      rw [e] at k
      simp only [Option.map_some, optP] at k
      have e1 : i + 1 + (j - (i + 1) + 1) = j + 1 := by omega
      rw [e1] at k
      exact k
    · rw [if_pos (by simp [h34])]
      refine ⟨by omega, c, at_nat hc, ?_⟩
      rw [one_eq (d := 92) (by decide +kernel)]
      by_cases h92 : c = 92
      · subst h92
        simp only [decide_true, if_true]
        refine ⟨by omega, ?_⟩
        have ec : cutS z (some ((j : Int) + 1)) (some ((j : Int) + 2)) = ofL (sub (cs z) (j + 1) (j + 1 + 1)) := cut_eq (i := j + 1) (j := j + 1 + 1)
        rw [ec, sub1]
        cases hd : (cs z)[j + 1]? with
        | none =>
          simp only
          rw [if_pos (by decide +kernel)]
          have ed : (cs z).drop (j + 1) = [] := List.drop_of_length_le (List.getElem?_eq_none_iff.mp hd)
          rw [drop_at hc, ed] at e
          unfold strAt at k
          rw [e] at k
          exact k
        | some d =>
          simp only
          have hl := (List.getElem?_eq_some_iff.mp hd).1
          rw [len_cs] at hl
          rw [str_one (d := 34) (by decide +kernel), str_one (d := 92) (by decide +kernel)]
          rw [drop_at hc, drop_at hd, strG] at e
          by_cases hq : d = 34 ∨ d = 92
          · rw [if_pos hq] at e
            rw [if_neg (by rcases hq with hq | hq <;> simp [hq])]
            refine ⟨by omega, d, at_nat (i := j + 1) hd, ?_, z.length - (j + 2), by omega, j + 2, acc ++ [d], some (.d (.int 1)), ?_, by omega, by omega, rfl, by simp; omega, ?_⟩
            · rw [len_ofL]
              show _ + 1 ≤ _
              omega
            · rw [← app_ofL]
              rfl
            · rw [e, Option.map_map]
              congr 1
              funext p
              simp only [Function.comp, List.append_assoc, List.cons_append, List.nil_append]
              congr 1
              omega
          · rw [if_neg hq] at e
            rw [if_pos (by simp only [not_or] at hq; simp [hq.1, hq.2])]
            unfold strAt at k
            rw [e] at k
            exact k
      · simp only [decide_eq_false h92, Bool.false_eq_true, if_false]
        rw [drop_at hc] at e
        have eg : strG (c :: (cs z).drop (j + 1)) = (strG ((cs z).drop (j + 1))).map fun p => (c :: p.1, p.2 + 1) := by
          rw [strG]
          · intro q
            exact h34 q
          · intro q
            exact absurd q h92
          · intro d r q
            exact absurd q h92
        rw [eg] at e
        rw [if_neg (by decide)]
        refine ⟨by omega, c, by rw [Int.add_zero]; exact at_nat hc, ?_, z.length - (j + 1), by omega, j + 1, acc ++ [c], some (.d (.int 0)), ?_, by omega, by omega, rfl, by simp; omega, ?_⟩
        · rw [len_ofL]
          show _ + 1 ≤ _
          omega
        · rw [← app_ofL]
          rfl
        · rw [e, Option.map_map]
          congr 1
          funext p
          simp only [Function.comp, List.append_assoc, List.cons_append, List.nil_append]
          congr 1
          omega
  · rw [if_neg (by simp; omega)]
    have ed : (cs z).drop j = [] := List.drop_of_length_le (by rw [len_cs]; omega)
    rw [ed] at e
    rw [if_neg (by simp; omega)]
    unfold strAt at k
    rw [e] at k
    exact ⟨by omega, k⟩
end
end K88
end
section
--@@ gend
set_option Elab.async false
set_option linter.all false
set_option maxRecDepth 100000
set_option maxHeartbeats 4000000
set_option synthInstance.maxHeartbeats 4000000
set_option synthInstance.maxSize 100000
namespace K88
open PySem PySem.Spec PyProof.Rows L2 Tg Dw
local macro_rules | `(tactic| walk_at "d") => `(tactic| simp (maxSteps := 4000000) only [DVar, DCon, DLock, DLockV, DCons, DNil, DOp, DOpN, DUn, DTup, DLst, DCB, DCBN, DMt, DMtN, isB, DB, DNot, DAnd, DOr, DAndV, DOrV, DNotV, DIf, DChain, DNext, DSeq, DIfS, DRet, DDrop, DSet, DSetN, GName, GNil, GCons, GTup, DAsgG, DPar, isL, isT, isS, isI, IList, ITup, IStr, IRng1, IRng2, DFor, DLc, DYes, RInt, RIntC, RStr, RCatS, eqC, REq, RNe, isNone, RIsN, RNotN, RInS, RIx, RSlS, ONone, OSome, DSl, DSlN, on1, on2, RLen, RIntOf, RIntS, RStrI, RAbs, RMin2, RMax2, RAll, RAny, NList, RTuple, RReprD, MStarts, MFind, MJoin, tyB, DIs, DIs3, DApp, DCall, DCallX, DRaise, startD, RAdd, RLe, RInX, NCat, RMulX, NSlL, DFzS, DAug, DCallP, startP, wipeD, IItems, DDGet, DDIn, NSortedD, NListD, MDict, DCBM, DParND, DParNN, DPar3N, DPar3, GPut, DPeek, DNe0, DPop, DLenO, DPar3M, flD, inF, eqF, List.length_cons, List.length_nil, List.map_cons, List.map_nil, List.replicate_succ, List.replicate_zero, List.cons_append, List.nil_append, List.getElem?_cons_zero, List.getElem?_cons_succ, List.set_cons_zero, List.set_cons_succ, Nat.reduceAdd, Nat.reduceSub, Nat.zero_add, Bool.not_true, Bool.not_false, Bool.false_eq_true, if_true, if_false, reduceIte, reduceCtorEq, beq_self_eq_true, Bool.true_or, Bool.or_true, Bool.false_or, Bool.or_false, String.reduceBEq, Option.some.injEq, false_and, and_false, exists_const, true_and, and_true, PyData.str.injEq, exists_eq', exists_eq_left', Nat.reduceLeDiff, DV.l.injEq, DV.m.injEq, DV.pot.injEq, List.all_cons, List.all_nil, List.any_cons, List.any_nil, Bool.and_self, Bool.and_true, Bool.true_and])
theorem lets_next {l : List Nat} {i : Nat} {c : Nat} (h : l[i]? = some c) : lets l i = if low c = true then lets l (i + 1) else i := by
  unfold lets
  rw [drop_at h, List.takeWhile_cons]
  cases low c with
  | true =>
    simp only [if_true, List.length_cons]
    omega
  | false => simp
theorem lets_end {l : List Nat} {i : Nat} (h : l.length ≤ i) : lets l i = i := by
  unfold lets
  rw [List.drop_of_length_le h]
  rfl
theorem DWhile.inv {T : TDT} {U : TDS} {DD : DEnds} {ρ : DSt} (W : Nat → DSt → Prop) (X : DSt → Prop) (n : Nat) (h0 : W n ρ) (hx : ∀ ρ, X ρ → DD.nx ρ) (hs : ∀ n ρ, W n ρ → ∀ Q : DSt → Prop, (∀ ρ, X ρ → Q ρ) → T ρ fun b ρ1 => if b = true then U { nx := fun ρ' => ∃ m, m < n ∧ W m ρ', rt := DD.rt, bk := DD.nx, ct := fun ρ' => ∃ m, m < n ∧ W m ρ' } ρ1 else Q ρ1) : DWhile T U DD ρ := ⟨W, ⟨n, h0⟩, fun n ρ h => hs n ρ h _ hx⟩
theorem cutk {z : Str} {j : Nat} (a : List Nat) (k : Nat) (hk : k = a.length) : decide (cutS z (some (j : Int)) (some ((j : Int) + (k : Nat))) = ofL a) = pre a (cs z) j := by
  have e : cutS z (some (j : Int)) (some ((j : Int) + (k : Nat))) = ofL (sub (cs z) j (j + k)) := cut_eq (i := j) (j := j + k)
  rw [e]
  unfold pre sub
  rw [show j + k - j = a.length by omega, Bool.eq_iff_iff, decide_eq_true_eq, decide_eq_true_eq]
  exact ⟨fun q => congrArg cs q, fun q => by rw [q]⟩
theorem cut_cl {z : Str} {j : Nat} : decide (cutS z (some (j : Int)) (some ((j : Int) + 2)) = Str.ofString ": ") = pre [58, 32] (cs z) j := by
  rw [show Str.ofString ": " = ofL [58, 32] from by decide +kernel]
  exact cutk [58, 32] 2 rfl
theorem pairs_last : ∀ {acc : List (Str × PyData)}, acc ≠ [] → ∃ d, atI (pairsP acc) (-1) = some (.tuple [.str (lastS acc), d]) := fun {acc} h => by
  have hl : 0 < acc.length := List.length_pos_iff.mpr h
  have e : acc.getLast? = acc[acc.length - 1]? := List.getLast?_eq_getElem?
  have e2 : acc[acc.length - 1]? = some (acc[acc.length - 1]'(by omega)) := List.getElem?_eq_getElem _
  generalize (acc[acc.length - 1]'(by omega)) = p at e2
  refine ⟨p.2, ?_⟩
  unfold lastS
  rw [e, e2]
  unfold atI ixN pairsP
  rw [if_neg (by decide), List.length_map, if_pos (by omega)]
  simp only [Option.bind_some]
  rw [show ((-1 : Int) + (acc.length : Int)).toNat = acc.length - 1 by omega, List.getElem?_map, e2]
  rfl
theorem pairs_nil {acc : List (Str × PyData)} : (pairsP acc).isEmpty = acc.isEmpty := by
  cases acc <;> rfl
theorem low_le {c : Nat} : low c = (!decide ([c] < (Str.ofString "a").cps.toList) && !decide ((Str.ofString "z").cps.toList < [c])) := by
  rw [show (Str.ofString "a").cps.toList = [97] from by decide +kernel, show (Str.ofString "z").cps.toList = [122] from by decide +kernel]
  have h1 : ([c] < [97]) = (c < 97) := by simp [List.cons_lt_cons_iff]
  have h2 : ([122] < [c]) = (122 < c) := by simp [List.cons_lt_cons_iff]
  unfold low
  rw [Bool.eq_iff_iff]
  simp only [h1, h2]
  simp
/-- rows -/
def rowsP : PyData → PyData
  | .list xs => .list (xs.map fun d => .tuple [.str (Str.ofString ""), d])
  | .dict kds => .list (kds.map fun p => .tuple [p.1, p.2])
  | d => d
def itmP : Option (PyData × Nat) → PyData
  | none => .none
  | some (d, j) => .tuple [rowsP d, .int j]
theorem rows_dict (acc : List (Str × PyData)) : rowsP (.dict (strP acc)) = .list (pairsP acc) := by
  show PyData.list ((strP acc).map fun p => .tuple [p.1, p.2]) = _
  unfold strP pairsP
  rw [List.map_map]
  rfl
theorem pre_comma {l : List Nat} {k : Nat} (h : pre [44, 32] l k = true) : l[k]? = some 44 := by
  unfold pre at h
  rw [decide_eq_true_eq] at h
  cases q : l[k]? with
  | none =>
    rw [List.drop_of_length_le (List.getElem?_eq_none_iff.mp q)] at h
    cases h
  | some c =>
    rw [drop_at q] at h
    have := List.head_eq_of_cons_eq h
    rw [this]
section
variable {P : Program} {w : World} {K : PySem.W.Frag} {mg : Str → Option Value} {base : Heap}
def FLpart (n : Nat) : DF := FPart n
def FItm (n : Nat) : DF := fun ds Kk => ∃ (z : Str) (i : Nat) (b : Bool), ds = [.str z, .int i, .bool b] ∧ z.length ≤ 600 ∧ i < z.length ∧ br (cs z) (i + 1) < n ∧ Kk (itmP (if b = true then recAt (partN n (cs z)) (cs z) i else lstAt (partN n (cs z)) (cs z) i))
theorem ok_itm (T : Tx P K mg) {n k : Nat} (G__law_part : FnOk P w K mg base CX0 k T.a__law_part T.fd__law_part ["_law_text", "_law_at"] (spD (FPart n))) : FnOk P w K mg base CX0 (k + 1) T.a__law_items T.fd__law_items ["_law_text", "_law_at", "_law_has_fields"] (spD (FItm n)) := by
  refine Dw.okD T.F__law_items sc__law_items (fun ds Kk h => ?_) (fun cdv A outer s H E ds Kk hr h => ⟨_, _, (pss_cons (ps_par3 (i := 3) (j := 4) (l := 1) (by rfl) sc__law_items.nd rfl rfl rfl (by decide) (by decide) (by decide) rfl rfl rfl (pa_cons (pe_ifExp (pt_val (pv 2)) pe_str pe_str) (pa_cons (pe_lst pa_nil) (pa_cons (pe_op dAddX (pv 1) pe_int) pa_nil))) (by rfl))
      (pss_cons (ps_if (pt_cmpR dEq (pe_slice dSlS (pv 0) (po_some (pv 1)) (po_some (pe_op dAddX (pv 1) pe_int))) (pv 3) (nomark _)) (pss_one (ps_ret (pe_tup (pa_cons (pe_fz (pe_lst pa_nil)) (pa_cons (pe_op dAddX (pv 1) pe_int) pa_nil))))) pss_nil)
      (pss_one (ps_while PassesOwn.never (pt_val pe_bl) (pss_cons (ps_set (i := 5) sc__law_items.nd rfl (Or.inl rfl) pe_str)
      (pss_cons (ps_if (pt_val (pv 2)) (pss_cons (ps_set (i := 6) sc__law_items.nd rfl (Or.inl rfl) (pv 1))
      (pss_cons (ps_while PassesOwn.never (PW.pt (pw_and (pt_cmpR dLt (pv 6) (pe_callB dLen (by rfl) T.n_len PyProof.Rows.Boot.«len» (pa_cons (pv 0) pa_nil)) (nomark _)) (pw_and1 (pt_chain dLeX dLeX pe_str (pe_ix dIx (pv 0) (pv 6) (fun _ _ => rfl)) pe_str)))) (pss_one (ps_set (i := 6) sc__law_items.nd rfl (Or.inl rfl) (pe_op dAddX (pv 6) pe_int))))
      (pss_cons (ps_set (i := 5) sc__law_items.nd rfl (Or.inl rfl) (pe_slice dSlS (pv 0) (po_some (pv 1)) (po_some (pv 6))))
      (pss_cons (ps_if (PW.pt (pw_or (pt_not (pt_chain dLeX dLeX pe_int (pe_callB dLen (by rfl) T.n_len PyProof.Rows.Boot.«len» (pa_cons (pv 5) pa_nil)) pe_int)) (pw_or (pt_cmpR dNe (pe_slice dSlS (pv 0) (po_some (pv 6)) (po_some (pe_op dAddX (pv 6) pe_int))) pe_str (nomark _)) (pw_or1 (PW.pt (pw_and (pt_cmpR (op_neL0 (Nat.lt_of_le_of_lt (Nat.le_add_right _ _) hr.units)) (pv 4) (pe_lst pa_nil) (nomark _)) (pw_and1 (pt_cmpR dLeX (pv 5) (pe_ix dIx (pe_ix ix_list (pv 4) (pe_un dNeg pe_int) (fun _ _ => rfl)) pe_int (fun _ _ => rfl)) (nomark _))))))))) (pss_one (ps_ret pe_non)) pss_nil)
      (pss_one (ps_set (i := 1) sc__law_items.nd rfl (Or.inl rfl) (pe_op dAddX (pv 6) pe_int))))))) pss_nil)
      (pss_cons (ps_set (i := 7) sc__law_items.nd rfl (Or.inl rfl) (pe_call G__law_part (hr.mono (by first | decide | omega)) (by rfl) T.m__law_part T.F__law_part.kp T.b__law_part .nil pass0 (pa_cons (pv 0) (pa_cons (pv 1) pa_nil))))
      (pss_cons (ps_if (pt_cmpR dIsN (pv 7) pe_non (nomark _)) (pss_one (ps_ret pe_non)) pss_nil)
      (pss_cons (ps_expr (pe_bm PySem.F.plainAttrs_list PySem.F.slot_list_append PySem.F.type_list_append mt_append (pv 4) (pa_cons (pe_tup (pa_cons (pv 5) (pa_cons (pe_ix dIx (pv 7) pe_int (fun _ _ => rfl)) pa_nil))) pa_nil)))
      (pss_cons (ps_set (i := 1) sc__law_items.nd rfl (Or.inl rfl) (pe_ix dIx (pv 7) pe_int (fun _ _ => rfl)))
      (pss_cons (ps_if (pt_cmpR dEq (pe_slice dSlS (pv 0) (po_some (pv 1)) (po_some (pe_op dAddX (pv 1) pe_int))) (pv 3) (nomark _)) (pss_one (ps_ret (pe_tup (pa_cons (pe_fz (pv 4)) (pa_cons (pe_op dAddX (pv 1) pe_int) pa_nil))))) pss_nil)
      (pss_cons (ps_if (pt_cmpR dNe (pe_slice dSlS (pv 0) (po_some (pv 1)) (po_some (pe_op dAddX (pv 1) pe_int))) pe_str (nomark _)) (pss_one (ps_ret pe_non)) pss_nil)
      (pss_one (ps_set (i := 1) sc__law_items.nd rfl (Or.inl rfl) (pe_op dAddX (pv 1) pe_int))))))))))))))), inferInstance, ?_⟩)
  · obtain ⟨z, i, b, rfl, _⟩ := h
    rfl
  obtain ⟨z, i, b, rfl, hz, hi, hb, k⟩ := h
  cases b with
  | false =>
    walk_at "d"
    have q2 : Str.ofString "]" = ofL [93] := by decide +kernel
    rw [q2]
    have c1 : ∀ j : Nat, decide (cutS z (some ((j : Int) + 1)) (some ((j : Int) + 1 + 1)) = ofL [93]) = decide ((cs z)[j + 1]? = some 93) := fun j => cut1 (i := j + 1)
    rw [c1]
    refine ⟨by omega, ?_⟩
    simp only [Bool.false_eq_true, if_false] at k
    unfold lstAt at k
    by_cases h0 : (cs z)[i + 1]? = some 93
    · rw [if_pos h0] at k
      rw [if_pos (decide_eq_true h0)]
      exact k
    rw [if_neg h0] at k
    rw [if_neg (by simp only [decide_eq_true_eq]; exact h0)]
    generalize hR : lstG (partN n (cs z)) (cs z) ((cs z).length + 1) (i + 1) [] = R at k
    refine DWhile.by_ (fun t ρ => ∃ (j : Nat) (acc : List PyData) (x5 x6 x7 : Option DV), i + 1 ≤ j ∧ j ≤ z.length ∧ acc.length ≤ j ∧
      ρ = [some (.d (.str z)), some (.d (.int j)), some (.d (.bool false)), some (.d (.str (ofL [93]))), some (.l (acc.map fun d => .tuple [.str (Str.ofString ""), d])), x5, x6, x7] ∧ (∃ m, z.length - j < m ∧ R = lstG (partN n (cs z)) (cs z) m j acc) ∧ t = z.length - j) _
      ⟨i + 1, [], none, none, none, Nat.le_refl _, by omega, Nat.zero_le _, rfl, ⟨_, by rw [len_cs]; omega, hR.symm⟩, rfl⟩ ?_
    rintro t ρ ⟨j, acc, x5, x6, x7, hij, hj, hl, rfl, ⟨m, hm, hR⟩, rfl⟩
    simp (maxSteps := 4000000) only [DVar, DCon, DLock, DLockV, DCons, DNil, DOp, DOpN, DUn, DTup, DLst, DCB, DCBN, DMt, DMtN, isB, DB, DNot, DAnd, DOr, DAndV, DOrV, DNotV, DIf, DChain, DNext, DSeq, DIfS, DRet, DDrop, DSet, DSetN, GName, GNil, GCons, GTup, DAsgG, DPar, isL, isT, isS, isI, IList, ITup, IStr, IRng1, IRng2, DFor, DLc, DYes, RInt, RIntC, RStr, RCatS, eqC, REq, RNe, isNone, RIsN, RNotN, RInS, RIx, RSlS, ONone, OSome, DSl, DSlN, on1, on2, RLen, RIntOf, RIntS, RStrI, RAbs, RMin2, RMax2, RAll, RAny, NList, RTuple, RReprD, MStarts, MFind, MJoin, tyB, DIs, DIs3, DApp, DCall, DCallX, DRaise, startD, RAdd, RLe, RInX, NCat, RMulX, NSlL, DFzS, DAug, DCallP, startP, wipeD, IItems, DDGet, DDIn, NSortedD, NListD, MDict, DCBM, DParND, DParNN, DPar3N, DPar3, GPut, DPeek, DNe0, DPop, DLenO, DPar3M, flD, inF, eqF, List.length_cons, List.length_nil, List.map_cons, List.map_nil, List.replicate_succ, List.replicate_zero, List.cons_append, List.nil_append, List.getElem?_cons_zero, List.getElem?_cons_succ, List.set_cons_zero, List.set_cons_succ, Nat.reduceAdd, Nat.reduceSub, Nat.zero_add, Bool.not_true, Bool.not_false, Bool.false_eq_true, if_true, if_false, reduceIte, reduceCtorEq, beq_self_eq_true, Bool.true_or, Bool.or_true, Bool.false_or, Bool.or_false, String.reduceBEq, Option.some.injEq, false_and, and_false, exists_const, true_and, and_true, PyData.str.injEq, exists_eq', exists_eq_left', Nat.reduceLeDiff, DV.l.injEq, DV.m.injEq, DV.pot.injEq, List.all_cons, List.all_nil, List.any_cons, List.any_nil, Bool.and_self, Bool.and_true, Bool.true_and]
    refine ⟨z, j, rfl, hz, hj, Nat.lt_of_le_of_lt (br_mono hij) hb, ?_⟩
    cases m with
    | zero => omega
    | succ m =>
      unfold lstG at hR
      cases q : partN n (cs z) j with
      | none =>
        rw [q] at hR
        simp only at hR
        rw [hR] at k
        simp only [optP, isNone]
        exact k
      | some p =>
        obtain ⟨d, e⟩ := p
        rw [q] at hR
        simp only at hR
        have g := part_goes n (cs z) j d e q
        rw [len_cs] at g
        simp only [optP, isNone, Bool.false_eq_true, if_false]
        refine ⟨d, rfl, by rw [List.length_map]; omega, .int e, rfl, ?_⟩
        simp only
        refine ⟨by omega, ?_⟩
        have em : (acc.map fun d => PyData.tuple [.str (Str.ofString ""), d]) ++ [.tuple [.str (Str.ofString ""), d]] = (acc ++ [d]).map fun d => PyData.tuple [.str (Str.ofString ""), d] := by simp
        rw [cut1, cut2, em]
        by_cases h9 : (cs z)[e]? = some 93
        · have hp : pre [44, 32] (cs z) e = false := by
            cases hp : pre [44, 32] (cs z) e with
            | false => rfl
            | true =>
              have := pre_comma hp
              rw [h9] at this
              cases this
          rw [hp] at hR
          rw [if_neg (by decide), if_pos h9] at hR
          rw [hR] at k
          rw [if_pos (decide_eq_true h9)]
          exact k
        · rw [if_neg (by simp only [decide_eq_true_eq]; exact h9)]
          refine ⟨by omega, ?_⟩
          cases hp : pre [44, 32] (cs z) e with
          | false =>
            rw [hp] at hR
            rw [if_neg (by decide), if_neg h9] at hR
            rw [hR] at k
            rw [if_pos (by decide)]
            exact k
          | true =>
            rw [hp] at hR
            rw [if_pos rfl] at hR
            have hpl := pre_len hp (by decide)
            simp only [List.length_cons, List.length_nil, len_cs] at hpl
            rw [if_neg (by decide)]
            exact ⟨z.length - (e + 2), by omega, e + 2, acc ++ [d], _, _, _, by omega, by omega, by simp; omega, rfl, ⟨m, by omega, hR⟩, rfl⟩
  | true =>
    walk_at "d"
    have q2 : Str.ofString "}" = ofL [125] := by decide +kernel
    rw [q2]
    have c1 : ∀ j : Nat, decide (cutS z (some ((j : Int) + 1)) (some ((j : Int) + 1 + 1)) = ofL [125]) = decide ((cs z)[j + 1]? = some 125) := fun j => cut1 (i := j + 1)
    rw [c1]
    refine ⟨by omega, ?_⟩
    simp only [if_true] at k
    unfold recAt at k
    by_cases h0 : (cs z)[i + 1]? = some 125
    · rw [if_pos h0] at k
      rw [if_pos (decide_eq_true h0)]
      exact k
    rw [if_neg h0] at k
    rw [if_neg (by simp only [decide_eq_true_eq]; exact h0)]
    generalize hR : recG (partN n (cs z)) (cs z) ((cs z).length + 1) (i + 1) [] = R at k
    refine DWhile.by_ (fun t ρ => ∃ (j : Nat) (acc : List (Str × PyData)) (x5 x6 x7 : Option DV), i + 1 ≤ j ∧ j ≤ z.length ∧ acc.length ≤ j ∧
      ρ = [some (.d (.str z)), some (.d (.int j)), some (.d (.bool true)), some (.d (.str (ofL [125]))), some (.l (pairsP acc)), x5, x6, x7] ∧ (∃ m, z.length - j < m ∧ R = recG (partN n (cs z)) (cs z) m j acc) ∧ t = z.length - j) _
      ⟨i + 1, [], none, none, none, Nat.le_refl _, by omega, Nat.zero_le _, rfl, ⟨_, by rw [len_cs]; omega, hR.symm⟩, rfl⟩ ?_
    rintro t ρ ⟨j, acc, x5, x6, x7, hij, hj, hl, rfl, ⟨m, hm, hR⟩, rfl⟩
    generalize hT : DOr (DNot _) _ = TT
    generalize hU : DSeq (DSet 7 _) _ = UU
    simp (maxSteps := 4000000) only [DVar, DCon, DLock, DLockV, DCons, DNil, DOp, DOpN, DUn, DTup, DLst, DCB, DCBN, DMt, DMtN, isB, DB, DNot, DAnd, DOr, DAndV, DOrV, DNotV, DIf, DChain, DNext, DSeq, DIfS, DRet, DDrop, DSet, DSetN, GName, GNil, GCons, GTup, DAsgG, DPar, isL, isT, isS, isI, IList, ITup, IStr, IRng1, IRng2, DFor, DLc, DYes, RInt, RIntC, RStr, RCatS, eqC, REq, RNe, isNone, RIsN, RNotN, RInS, RIx, RSlS, ONone, OSome, DSl, DSlN, on1, on2, RLen, RIntOf, RIntS, RStrI, RAbs, RMin2, RMax2, RAll, RAny, NList, RTuple, RReprD, MStarts, MFind, MJoin, tyB, DIs, DIs3, DApp, DCall, DCallX, DRaise, startD, RAdd, RLe, RInX, NCat, RMulX, NSlL, DFzS, DAug, DCallP, startP, wipeD, IItems, DDGet, DDIn, NSortedD, NListD, MDict, DCBM, DParND, DParNN, DPar3N, DPar3, GPut, DPeek, DNe0, DPop, DLenO, DPar3M, flD, inF, eqF, List.length_cons, List.length_nil, List.map_cons, List.map_nil, List.replicate_succ, List.replicate_zero, List.cons_append, List.nil_append, List.getElem?_cons_zero, List.getElem?_cons_succ, List.set_cons_zero, List.set_cons_succ, Nat.reduceAdd, Nat.reduceSub, Nat.zero_add, Bool.not_true, Bool.not_false, Bool.false_eq_true, if_true, if_false, reduceIte, reduceCtorEq, beq_self_eq_true, Bool.true_or, Bool.or_true, Bool.false_or, Bool.or_false, String.reduceBEq, Option.some.injEq, false_and, and_false, exists_const, true_and, and_true, PyData.str.injEq, exists_eq', exists_eq_left', Nat.reduceLeDiff, DV.l.injEq, DV.m.injEq, DV.pot.injEq, List.all_cons, List.all_nil, List.any_cons, List.any_nil, Bool.and_self, Bool.and_true, Bool.true_and]
    refine DWhile.inv (fun t ρ => ∃ (s : Nat), ρ = [some (.d (.str z)), some (.d (.int j)), some (.d (.bool true)), some (.d (.str (ofL [125]))), some (.l (pairsP acc)), some (.d (.str (Str.ofString ""))), some (.d (.int s)), x7] ∧ j ≤ s ∧ s ≤ z.length ∧ lets (cs z) s = lets (cs z) j ∧ t = z.length - s)
      (fun ρ => ρ = [some (.d (.str z)), some (.d (.int j)), some (.d (.bool true)), some (.d (.str (ofL [125]))), some (.l (pairsP acc)), some (.d (.str (Str.ofString ""))), some (.d (.int (lets (cs z) j))), x7]) _ ⟨j, rfl, Nat.le_refl _, hj, rfl, rfl⟩ ?_ ?_
    · rintro ρ rfl
      simp (maxSteps := 4000000) only [DVar, DCon, DLock, DLockV, DCons, DNil, DOp, DOpN, DUn, DTup, DLst, DCB, DCBN, DMt, DMtN, isB, DB, DNot, DAnd, DOr, DAndV, DOrV, DNotV, DIf, DChain, DNext, DSeq, DIfS, DRet, DDrop, DSet, DSetN, GName, GNil, GCons, GTup, DAsgG, DPar, isL, isT, isS, isI, IList, ITup, IStr, IRng1, IRng2, DFor, DLc, DYes, RInt, RIntC, RStr, RCatS, eqC, REq, RNe, isNone, RIsN, RNotN, RInS, RIx, RSlS, ONone, OSome, DSl, DSlN, on1, on2, RLen, RIntOf, RIntS, RStrI, RAbs, RMin2, RMax2, RAll, RAny, NList, RTuple, RReprD, MStarts, MFind, MJoin, tyB, DIs, DIs3, DApp, DCall, DCallX, DRaise, startD, RAdd, RLe, RInX, NCat, RMulX, NSlL, DFzS, DAug, DCallP, startP, wipeD, IItems, DDGet, DDIn, NSortedD, NListD, MDict, DCBM, DParND, DParNN, DPar3N, DPar3, GPut, DPeek, DNe0, DPop, DLenO, DPar3M, flD, inF, eqF, List.length_cons, List.length_nil, List.map_cons, List.map_nil, List.replicate_succ, List.replicate_zero, List.cons_append, List.nil_append, List.getElem?_cons_zero, List.getElem?_cons_succ, List.set_cons_zero, List.set_cons_succ, Nat.reduceAdd, Nat.reduceSub, Nat.zero_add, Bool.not_true, Bool.not_false, Bool.false_eq_true, if_true, if_false, reduceIte, reduceCtorEq, beq_self_eq_true, Bool.true_or, Bool.or_true, Bool.false_or, Bool.or_false, String.reduceBEq, Option.some.injEq, false_and, and_false, exists_const, true_and, and_true, PyData.str.injEq, exists_eq', exists_eq_left', Nat.reduceLeDiff, DV.l.injEq, DV.m.injEq, DV.pot.injEq, List.all_cons, List.all_nil, List.any_cons, List.any_nil, Bool.and_self, Bool.and_true, Bool.true_and]
      have hle := lets_le (l := cs z) (i := j) (by rw [len_cs]; exact hj)
      have hlg := lets_ge (l := cs z) (i := j)
      rw [len_cs] at hle
      generalize hs : lets (cs z) j = s at *
      have ef : cutS z (some (j : Int)) (some (s : Int)) = ofL (sub (cs z) j s) := cut_eq
      have fl : (ofL (sub (cs z) j s)).length = s - j := by
        rw [len_ofL, sub_len (by rw [len_cs]; exact hle)]
      refine ⟨by omega, ?_⟩
      rw [ef]
      have ev : ∀ KK : Bool → DSt → Prop, KK (!decide ((1 ≤ s - j ∧ s - j ≤ 8) ∧ pre [58, 32] (cs z) s = true ∧ (lastS acc).cps.toList < sub (cs z) j s)) [some (.d (.str z)), some (.d (.int j)), some (.d (.bool true)), some (.d (.str (ofL [125]))), some (.l (pairsP acc)), some (.d (.str (ofL (sub (cs z) j s)))), some (.d (.int s)), x7] →
          TT [some (.d (.str z)), some (.d (.int j)), some (.d (.bool true)), some (.d (.str (ofL [125]))), some (.l (pairsP acc)), some (.d (.str (ofL (sub (cs z) j s)))), some (.d (.int s)), x7] KK := by
        intro KK hK
        rw [← hT]
        simp (maxSteps := 4000000) only [DVar, DCon, DLock, DLockV, DCons, DNil, DOp, DOpN, DUn, DTup, DLst, DCB, DCBN, DMt, DMtN, isB, DB, DNot, DAnd, DOr, DAndV, DOrV, DNotV, DIf, DChain, DNext, DSeq, DIfS, DRet, DDrop, DSet, DSetN, GName, GNil, GCons, GTup, DAsgG, DPar, isL, isT, isS, isI, IList, ITup, IStr, IRng1, IRng2, DFor, DLc, DYes, RInt, RIntC, RStr, RCatS, eqC, REq, RNe, isNone, RIsN, RNotN, RInS, RIx, RSlS, ONone, OSome, DSl, DSlN, on1, on2, RLen, RIntOf, RIntS, RStrI, RAbs, RMin2, RMax2, RAll, RAny, NList, RTuple, RReprD, MStarts, MFind, MJoin, tyB, DIs, DIs3, DApp, DCall, DCallX, DRaise, startD, RAdd, RLe, RInX, NCat, RMulX, NSlL, DFzS, DAug, DCallP, startP, wipeD, IItems, DDGet, DDIn, NSortedD, NListD, MDict, DCBM, DParND, DParNN, DPar3N, DPar3, GPut, DPeek, DNe0, DPop, DLenO, DPar3M, flD, inF, eqF, List.length_cons, List.length_nil, List.map_cons, List.map_nil, List.replicate_succ, List.replicate_zero, List.cons_append, List.nil_append, List.getElem?_cons_zero, List.getElem?_cons_succ, List.set_cons_zero, List.set_cons_succ, Nat.reduceAdd, Nat.reduceSub, Nat.zero_add, Bool.not_true, Bool.not_false, Bool.false_eq_true, if_true, if_false, reduceIte, reduceCtorEq, beq_self_eq_true, Bool.true_or, Bool.or_true, Bool.false_or, Bool.or_false, String.reduceBEq, Option.some.injEq, false_and, and_false, exists_const, true_and, and_true, PyData.str.injEq, exists_eq', exists_eq_left', Nat.reduceLeDiff, DV.l.injEq, DV.m.injEq, DV.pot.injEq, List.all_cons, List.all_nil, List.any_cons, List.any_nil, Bool.and_self, Bool.and_true, Bool.true_and]
        rw [fl]
        refine ⟨by omega, ?_⟩
        by_cases g1 : 1 ≤ s - j
        · rw [if_pos (by simp; omega)]
          by_cases g2 : s - j ≤ 8
          · rw [if_neg (by simp; omega)]
            refine ⟨by omega, ?_⟩
            rw [cut_cl]
            cases g3 : pre [58, 32] (cs z) s with
            | false =>
              rw [if_pos (by decide)]
              rw [g3] at hK
              simpa using hK
            | true =>
              rw [if_neg (by decide), pairs_nil]
              by_cases g4 : acc = []
              · subst g4
                rw [if_neg (by decide)]
                have : (lastS []).cps.toList < sub (cs z) j s := by
                  have hn : sub (cs z) j s ≠ [] := fun q => by
                    have := fl
                    rw [q] at this
                    simp [len_ofL] at this
                    omega
                  cases q : sub (cs z) j s with
                  | nil => exact absurd q hn
                  | cons c r => exact List.Lex.nil
                rw [decide_eq_true (⟨⟨g1, g2⟩, g3, this⟩ : _ ∧ _)] at hK
                exact hK
              · rw [if_pos (by cases acc with | nil => exact absurd rfl g4 | cons p r => rfl)]
                obtain ⟨d, hd⟩ := pairs_last g4
                refine ⟨_, hd, _, rfl, ?_⟩
                by_cases g5 : (lastS acc).cps.toList < sub (cs z) j s
                · rw [decide_eq_true (⟨⟨g1, g2⟩, g3, g5⟩ : _ ∧ _)] at hK
                  have : (!decide ((lastS acc).cps.toList < (ofL (sub (cs z) j s)).cps.toList)) = false := by
                    rw [decide_eq_true (show (lastS acc).cps.toList < (ofL (sub (cs z) j s)).cps.toList from g5)]
                    rfl
                  simp only [this]
                  exact hK
                · rw [decide_eq_false (fun q => g5 q.2.2)] at hK
                  have : (!decide ((lastS acc).cps.toList < (ofL (sub (cs z) j s)).cps.toList)) = true := by
                    rw [decide_eq_false (show ¬ (lastS acc).cps.toList < (ofL (sub (cs z) j s)).cps.toList from g5)]
                    rfl
                  simp only [this]
                  exact hK
          · rw [if_pos (by simp; omega)]
            rw [decide_eq_false (fun q => g2 q.1.2)] at hK
            exact hK
        · rw [if_neg (by simp; omega)]
          rw [decide_eq_false (fun q => g1 q.1.1)] at hK
          exact hK
      refine ev _ ?_
      cases m with
      | zero => omega
      | succ m =>
        unfold recG at hR
        rw [hs] at hR
        by_cases hg : (1 ≤ s - j ∧ s - j ≤ 8) ∧ pre [58, 32] (cs z) s = true ∧ (lastS acc).cps.toList < sub (cs z) j s
        · rw [if_pos hg] at hR
          rw [decide_eq_true hg]
          simp (maxSteps := 4000000) only [DVar, DCon, DLock, DLockV, DCons, DNil, DOp, DOpN, DUn, DTup, DLst, DCB, DCBN, DMt, DMtN, isB, DB, DNot, DAnd, DOr, DAndV, DOrV, DNotV, DIf, DChain, DNext, DSeq, DIfS, DRet, DDrop, DSet, DSetN, GName, GNil, GCons, GTup, DAsgG, DPar, isL, isT, isS, isI, IList, ITup, IStr, IRng1, IRng2, DFor, DLc, DYes, RInt, RIntC, RStr, RCatS, eqC, REq, RNe, isNone, RIsN, RNotN, RInS, RIx, RSlS, ONone, OSome, DSl, DSlN, on1, on2, RLen, RIntOf, RIntS, RStrI, RAbs, RMin2, RMax2, RAll, RAny, NList, RTuple, RReprD, MStarts, MFind, MJoin, tyB, DIs, DIs3, DApp, DCall, DCallX, DRaise, startD, RAdd, RLe, RInX, NCat, RMulX, NSlL, DFzS, DAug, DCallP, startP, wipeD, IItems, DDGet, DDIn, NSortedD, NListD, MDict, DCBM, DParND, DParNN, DPar3N, DPar3, GPut, DPeek, DNe0, DPop, DLenO, DPar3M, flD, inF, eqF, List.length_cons, List.length_nil, List.map_cons, List.map_nil, List.replicate_succ, List.replicate_zero, List.cons_append, List.nil_append, List.getElem?_cons_zero, List.getElem?_cons_succ, List.set_cons_zero, List.set_cons_succ, Nat.reduceAdd, Nat.reduceSub, Nat.zero_add, Bool.not_true, Bool.not_false, Bool.false_eq_true, if_true, if_false, reduceIte, reduceCtorEq, beq_self_eq_true, Bool.true_or, Bool.or_true, Bool.false_or, Bool.or_false, String.reduceBEq, Option.some.injEq, false_and, and_false, exists_const, true_and, and_true, PyData.str.injEq, exists_eq', exists_eq_left', Nat.reduceLeDiff, DV.l.injEq, DV.m.injEq, DV.pot.injEq, List.all_cons, List.all_nil, List.any_cons, List.any_nil, Bool.and_self, Bool.and_true, Bool.true_and]
          rw [← hU]
          simp (maxSteps := 4000000) only [DVar, DCon, DLock, DLockV, DCons, DNil, DOp, DOpN, DUn, DTup, DLst, DCB, DCBN, DMt, DMtN, isB, DB, DNot, DAnd, DOr, DAndV, DOrV, DNotV, DIf, DChain, DNext, DSeq, DIfS, DRet, DDrop, DSet, DSetN, GName, GNil, GCons, GTup, DAsgG, DPar, isL, isT, isS, isI, IList, ITup, IStr, IRng1, IRng2, DFor, DLc, DYes, RInt, RIntC, RStr, RCatS, eqC, REq, RNe, isNone, RIsN, RNotN, RInS, RIx, RSlS, ONone, OSome, DSl, DSlN, on1, on2, RLen, RIntOf, RIntS, RStrI, RAbs, RMin2, RMax2, RAll, RAny, NList, RTuple, RReprD, MStarts, MFind, MJoin, tyB, DIs, DIs3, DApp, DCall, DCallX, DRaise, startD, RAdd, RLe, RInX, NCat, RMulX, NSlL, DFzS, DAug, DCallP, startP, wipeD, IItems, DDGet, DDIn, NSortedD, NListD, MDict, DCBM, DParND, DParNN, DPar3N, DPar3, GPut, DPeek, DNe0, DPop, DLenO, DPar3M, flD, inF, eqF, List.length_cons, List.length_nil, List.map_cons, List.map_nil, List.replicate_succ, List.replicate_zero, List.cons_append, List.nil_append, List.getElem?_cons_zero, List.getElem?_cons_succ, List.set_cons_zero, List.set_cons_succ, Nat.reduceAdd, Nat.reduceSub, Nat.zero_add, Bool.not_true, Bool.not_false, Bool.false_eq_true, if_true, if_false, reduceIte, reduceCtorEq, beq_self_eq_true, Bool.true_or, Bool.or_true, Bool.false_or, Bool.or_false, String.reduceBEq, Option.some.injEq, false_and, and_false, exists_const, true_and, and_true, PyData.str.injEq, exists_eq', exists_eq_left', Nat.reduceLeDiff, DV.l.injEq, DV.m.injEq, DV.pot.injEq, List.all_cons, List.all_nil, List.any_cons, List.any_nil, Bool.and_self, Bool.and_true, Bool.true_and]
          have hpl := pre_len hg.2.1 (by decide)
          simp only [List.length_cons, List.length_nil, len_cs] at hpl
          refine ⟨z, s + 2, rfl, hz, by omega, Nat.lt_of_le_of_lt (br_mono (by omega)) hb, ?_⟩
          cases q : partN n (cs z) (s + 2) with
          | none =>
            rw [q] at hR
            simp only at hR
            rw [hR] at k
            simp only [optP]
            exact k
          | some p =>
            obtain ⟨d, e⟩ := p
            rw [q] at hR
            simp only at hR
            have g := part_goes n (cs z) _ d e q
            rw [len_cs] at g
            simp only [optP, Bool.false_eq_true, if_false]
            have pl : (pairsP acc).length = acc.length := by unfold pairsP; rw [List.length_map]
            refine ⟨d, rfl, by omega, .int e, rfl, ?_⟩
            simp only
            refine ⟨by omega, ?_⟩
            have em : pairsP acc ++ [.tuple [.str (ofL (sub (cs z) j s)), d]] = pairsP (acc ++ [(ofL (sub (cs z) j s), d)]) := by simp [pairsP]
            rw [cut1, cut2, em]
            by_cases h9 : (cs z)[e]? = some 125
            · have hp : pre [44, 32] (cs z) e = false := by
                cases hp : pre [44, 32] (cs z) e with
                | false => rfl
                | true =>
                  have := pre_comma hp
                  rw [h9] at this
                  cases this
              rw [hp] at hR
              rw [if_neg (by decide), if_pos h9] at hR
              rw [hR, itmP, rows_dict] at k
              rw [if_pos (decide_eq_true h9)]
              exact k
            · rw [if_neg (by simp only [decide_eq_true_eq]; exact h9)]
              refine ⟨by omega, ?_⟩
              cases hp : pre [44, 32] (cs z) e with
              | false =>
                rw [hp] at hR
                rw [if_neg (by decide), if_neg h9] at hR
                rw [hR] at k
                rw [if_pos (by decide)]
                exact k
              | true =>
                rw [hp] at hR
                rw [if_pos rfl] at hR
                have hpl := pre_len hp (by decide)
                simp only [List.length_cons, List.length_nil, len_cs] at hpl
                rw [if_neg (by decide)]
                exact ⟨z.length - (e + 2), by omega, e + 2, acc ++ [(ofL (sub (cs z) j s), d)], _, _, _, by omega, by omega, by simp; omega, rfl, ⟨m, by omega, hR⟩, rfl⟩
        · rw [if_neg hg] at hR
          rw [decide_eq_false hg]
          rw [hR] at k
          exact k
    · rintro t ρ ⟨s, rfl, hjs, hs, he, rfl⟩ Q hQ
      simp (maxSteps := 4000000) only [DVar, DCon, DLock, DLockV, DCons, DNil, DOp, DOpN, DUn, DTup, DLst, DCB, DCBN, DMt, DMtN, isB, DB, DNot, DAnd, DOr, DAndV, DOrV, DNotV, DIf, DChain, DNext, DSeq, DIfS, DRet, DDrop, DSet, DSetN, GName, GNil, GCons, GTup, DAsgG, DPar, isL, isT, isS, isI, IList, ITup, IStr, IRng1, IRng2, DFor, DLc, DYes, RInt, RIntC, RStr, RCatS, eqC, REq, RNe, isNone, RIsN, RNotN, RInS, RIx, RSlS, ONone, OSome, DSl, DSlN, on1, on2, RLen, RIntOf, RIntS, RStrI, RAbs, RMin2, RMax2, RAll, RAny, NList, RTuple, RReprD, MStarts, MFind, MJoin, tyB, DIs, DIs3, DApp, DCall, DCallX, DRaise, startD, RAdd, RLe, RInX, NCat, RMulX, NSlL, DFzS, DAug, DCallP, startP, wipeD, IItems, DDGet, DDIn, NSortedD, NListD, MDict, DCBM, DParND, DParNN, DPar3N, DPar3, GPut, DPeek, DNe0, DPop, DLenO, DPar3M, flD, inF, eqF, List.length_cons, List.length_nil, List.map_cons, List.map_nil, List.replicate_succ, List.replicate_zero, List.cons_append, List.nil_append, List.getElem?_cons_zero, List.getElem?_cons_succ, List.set_cons_zero, List.set_cons_succ, Nat.reduceAdd, Nat.reduceSub, Nat.zero_add, Bool.not_true, Bool.not_false, Bool.false_eq_true, if_true, if_false, reduceIte, reduceCtorEq, beq_self_eq_true, Bool.true_or, Bool.or_true, Bool.false_or, Bool.or_false, String.reduceBEq, Option.some.injEq, false_and, and_false, exists_const, true_and, and_true, PyData.str.injEq, exists_eq', exists_eq_left', Nat.reduceLeDiff, DV.l.injEq, DV.m.injEq, DV.pot.injEq, List.all_cons, List.all_nil, List.any_cons, List.any_nil, Bool.and_self, Bool.and_true, Bool.true_and]
      refine ⟨by omega, ?_⟩
      by_cases h : s < z.length
      · rw [if_pos (by simp; omega)]
        have hc : (cs z)[s]? = some ((cs z)[s]'(by rw [len_cs]; exact h)) := List.getElem?_eq_getElem _
        generalize (cs z)[s]'(by rw [len_cs]; exact h) = c at hc
        refine ⟨by omega, c, at_nat hc, ?_⟩
        have lw := low_le (c := c)
        rw [lets_next hc] at he
        cases g1 : decide ([c] < (Str.ofString "a").cps.toList) with
        | true =>
          rw [g1] at lw
          rw [lw] at he
          rw [if_neg (by decide)]
          refine hQ _ ?_
          rw [← he]
          rfl
        | false =>
          rw [if_pos (by decide)]
          cases g2 : decide ((Str.ofString "z").cps.toList < [c]) with
          | true =>
            rw [g1, g2] at lw
            rw [lw] at he
            rw [if_neg (by decide)]
            refine hQ _ ?_
            rw [← he]
            rfl
          | false =>
            rw [g1, g2] at lw
            rw [lw] at he
            rw [if_pos (by decide)]
            exact ⟨z.length - (s + 1), by omega, s + 1, rfl, by omega, by omega, he, rfl⟩
      · rw [if_neg (by simp; omega)]
        rw [lets_end (by rw [len_cs]; omega)] at he
        refine hQ _ ?_
        rw [← he]
end
end K88
end
section
--@@ gend
set_option Elab.async false
set_option linter.all false
set_option maxRecDepth 100000
set_option maxHeartbeats 4000000
set_option synthInstance.maxHeartbeats 4000000
set_option synthInstance.maxSize 100000
namespace K88
open PySem PySem.Spec PyProof.Rows L2 Tg Dw
local macro_rules | `(tactic| walk_at "d") => `(tactic| simp (maxSteps := 4000000) only [DVar, DCon, DLock, DLockV, DCons, DNil, DOp, DOpN, DUn, DTup, DLst, DCB, DCBN, DMt, DMtN, isB, DB, DNot, DAnd, DOr, DAndV, DOrV, DNotV, DIf, DChain, DNext, DSeq, DIfS, DRet, DDrop, DSet, DSetN, GName, GNil, GCons, GTup, DAsgG, DPar, isL, isT, isS, isI, IList, ITup, IStr, IRng1, IRng2, DFor, DLc, DYes, RInt, RIntC, RStr, RCatS, eqC, REq, RNe, isNone, RIsN, RNotN, RInS, RIx, RSlS, ONone, OSome, DSl, DSlN, on1, on2, RLen, RIntOf, RIntS, RStrI, RAbs, RMin2, RMax2, RAll, RAny, NList, RTuple, RReprD, MStarts, MFind, MJoin, tyB, DIs, DIs3, DApp, DCall, DCallX, DRaise, startD, RAdd, RLe, RInX, NCat, RMulX, NSlL, DFzS, DAug, DCallP, startP, wipeD, IItems, DDGet, DDIn, NSortedD, NListD, MDict, DCBM, DParND, DParNN, DPar3N, DPar3, GPut, DPeek, DNe0, DPop, DLenO, DPar3M, DRepl, flD, inF, eqF, List.length_cons, List.length_nil, List.map_cons, List.map_nil, List.replicate_succ, List.replicate_zero, List.cons_append, List.nil_append, List.getElem?_cons_zero, List.getElem?_cons_succ, List.set_cons_zero, List.set_cons_succ, Nat.reduceAdd, Nat.reduceSub, Nat.zero_add, Bool.not_true, Bool.not_false, Bool.false_eq_true, if_true, if_false, reduceIte, reduceCtorEq, beq_self_eq_true, Bool.true_or, Bool.or_true, Bool.false_or, Bool.or_false, String.reduceBEq, Option.some.injEq, false_and, and_false, exists_const, true_and, and_true, PyData.str.injEq, exists_eq', exists_eq_left', Nat.reduceLeDiff, DV.l.injEq, DV.m.injEq, DV.pot.injEq, List.all_cons, List.all_nil, List.any_cons, List.any_nil, Bool.and_self, Bool.and_true, Bool.true_and])
theorem merge_snoc {acc : List (Str × PyData)} {x : Str} {d : PyData} (hm : mergeP [] acc = acc) (hr : Rises acc) (hx : (lastS acc).cps.toList < x.cps.toList) : mergeP [] (acc ++ [(x, d)]) = acc ++ [(x, d)] := by
  unfold mergeP at *
  rw [List.foldl_append, hm]
  exact put_new hr hx
theorem rec_some {f : PF} {l : List Nat} : ∀ {m i : Nat} {acc : List (Str × PyData)} {d : PyData} {j : Nat}, mergeP [] acc = acc → Rises acc → recG f l m i acc = some (d, j) → ∃ acc', d = .dict (strP acc') ∧ mergeP [] acc' = acc'
  | 0, i, acc, d, j, _, _, h => by cases h
  | m + 1, i, acc, d, j, hm, hr, h => by
    unfold recG at h
    split at h
    · rename_i hg
      split at h
      · cases h
      · rename_i d' j' q
        have hm' := merge_snoc (d := d') (x := ofL (sub l i (lets l i))) hm hr hg.2.2
        have hr' := rises_app (d := d') (x := ofL (sub l i (lets l i))) hr hg.2.2
        split at h
        · exact rec_some hm' hr' h
        · split at h
          · cases h
            exact ⟨_, rfl, hm'⟩
          · cases h
    · cases h
theorem lst_some {f : PF} {l : List Nat} : ∀ {m i : Nat} {acc : List PyData} {d : PyData} {j : Nat}, lstG f l m i acc = some (d, j) → ∃ xs, d = .list xs ∧ xs.length ≤ acc.length + m
  | 0, i, acc, d, j, h => by cases h
  | m + 1, i, acc, d, j, h => by
    unfold lstG at h
    split at h
    · cases h
    · split at h
      · obtain ⟨xs, e, hl⟩ := lst_some h
        exact ⟨xs, e, by rw [List.length_append] at hl; simp at hl; omega⟩
      · split at h
        · cases h
          exact ⟨_, rfl, by rw [List.length_append]; simp only [List.length_cons, List.length_nil]; omega⟩
        · cases h
theorem recAt_some {f : PF} {l : List Nat} {i : Nat} {d : PyData} {j : Nat} (h : recAt f l i = some (d, j)) : ∃ acc, d = .dict (strP acc) ∧ mergeP [] acc = acc := by
  unfold recAt at h
  split at h
  · cases h
    exact ⟨[], rfl, rfl⟩
  · exact rec_some rfl (fun p hp => by simp at hp) h
theorem lstAt_some {f : PF} {l : List Nat} {i : Nat} {d : PyData} {j : Nat} (h : lstAt f l i = some (d, j)) : ∃ xs, d = .list xs ∧ xs.length ≤ l.length + 1 := by
  unfold lstAt at h
  split at h
  · cases h
    exact ⟨[], rfl, Nat.zero_le _⟩
  · obtain ⟨xs, e, hl⟩ := lst_some h
    exact ⟨xs, e, by simpa using hl⟩
/-! ### figures -/
theorem repl_filter : ∀ l : List Nat, PySem.StrLaws.replL [45] [] l = l.filter fun c => !decide (c = 45)
  | [] => PySem.StrLaws.replL_nil
  | c :: r => by
    by_cases h : c = 45
    · subst h
      rw [PySem.StrLaws.replL_hit (by decide) rfl, List.filter_cons_of_neg (by decide)]
      exact repl_filter r
    · rw [PySem.StrLaws.replL_miss (by simpa using h), List.filter_cons_of_pos (by simp [h]), repl_filter r]
theorem repl_eq (x : Str) : Txt.replace x (Str.ofString "-") (Str.ofString "") = ofL ((cs x).filter fun c => !decide (c = 45)) := by
  apply str_eq
  show (Txt.replace x (Str.ofString "-") (Str.ofString "")).cps.toList = _
  rw [PySem.StrLaws.replace_list (by decide), show (Str.ofString "-").cps.toList = [45] from by decide +kernel, show (Str.ofString "").cps.toList = [] from by decide +kernel, repl_filter]
  rfl
theorem figs {l : List Nat} {i f : Nat} (hf : f = if l[i]? = some 45 then i + 1 else i) : (sub l i (digs l f)).filter (fun c => !decide (c = 45)) = sub l f (digs l f) := by
  have ha := digs_all (l := l) (i := f)
  have eg := digs_ge (l := l) (i := f)
  have hk : (sub l f (digs l f)).filter (fun c => !decide (c = 45)) = sub l f (digs l f) := by
    rw [List.filter_eq_self]
    intro c hc
    have := List.all_eq_true.mp ha c hc
    unfold isDig at this
    simp only [Bool.and_eq_true, decide_eq_true_eq] at this
    simp
    omega
  by_cases h : l[i]? = some 45
  · rw [if_pos h] at hf
    subst hf
    have e : sub l i (digs l (i + 1)) = 45 :: sub l (i + 1) (digs l (i + 1)) := by
      unfold sub
      rw [drop_at h, show digs l (i + 1) - i = (digs l (i + 1) - (i + 1)) + 1 by omega]
      rfl
    rw [e, List.filter_cons_of_neg (by decide)]
    exact hk
  · rw [if_neg h] at hf
    subst hf
    exact hk
section
variable {P : Program} {w : World} {K : PySem.W.Frag} {mg : Str → Option Value} {base : Heap}
theorem lpart_step (T : Tx P K mg) {n k : Nat} (hk : 1 ≤ k) (G__law_part : FnOk P w K mg base CX0 k T.a__law_part T.fd__law_part ["_law_text", "_law_at"] (spD (FPart n))) : FnOk P w K mg base CX0 (k + 2) T.a__law_part T.fd__law_part ["_law_text", "_law_at"] (spD (FPart (n + 1))) := by
  have G__law_items := ok_itm (w := w) (base := base) T G__law_part
  have G__law_string := ok_lstr (w := w) (base := base) T
  refine Dw.okD T.F__law_part sc__law_part (fun ds Kk h => ?_) (fun cdv A outer s H E ds Kk hr h => ⟨_, _, (pss_cons (ps_set (i := 2) sc__law_part.nd rfl (Or.inl rfl) (pe_slice dSlS (pv 0) (po_some (pv 1)) (po_some (pe_op dAddX (pv 1) pe_int))))
      (pss_ifT dEq (pv 2) (nomark _) (pss_one (ps_ret (pe_call G__law_string (hr.mono (by first | decide | omega)) (by rfl) T.m__law_string T.F__law_string.kp T.b__law_string .nil pass0 (pa_cons (pv 0) (pa_cons (pv 1) pa_nil))))) pss_nil
      (psst_cons (PST.of (ps_if (pt_cmpR dInX (pv 2) (pe_tup (pa_cons pe_str (pa_cons pe_str pa_nil))) (by rfl)) (pss_cons (ps_set (i := 3) sc__law_part.nd rfl (Or.inl rfl) (pe_call G__law_items (hr.mono (by first | decide | omega)) (by rfl) T.m__law_items T.F__law_items.kp T.b__law_items .nil pass0 (pa_cons (pv 0) (pa_cons (pv 1) (pa_cons (pe_cmpR dEq (pv 2) pe_str (nomark _)) pa_nil)))))
      (pss_cons (ps_if (pt_cmpR dIsN (pv 3) pe_non (nomark _)) (pss_one (ps_ret pe_non)) pss_nil)
      (pss_one (ps_ret (pe_tup (pa_cons (pe_ifExp (pt_cmpR dEq (pv 2) pe_str (nomark _)) (pe_fz (pe_callTy (dDictP rfl) (by rfl) T.n_dict PyProof.Rows.Boot.«dict» (pa_cons (pe_ix dIx (pv 3) pe_int (fun _ _ => rfl)) pa_nil))) (pe_fz (pe_lc (own := [("_law_row", 8)]) (g := gName 8) (tt := tYes) (by rfl) sc__law_part.nd (pi_list (pe_ix dIx (pv 3) pe_int (fun _ _ => rfl))) (blkOk_by (own := [("_law_row", 8)]) (N := ["_law_text", "_law_at", "_law_sign", "_law_told", "_law_word", "_law_document", "_law_stop", "_law_figures", "_law_row"]) (sc := defScope s__law_part) (by decide +kernel)) (fun _ _ _ _ _ => (pg_name (i := 8) sc__law_part.nd rfl (Or.inl rfl))) (fun _ _ _ _ _ => pts_nil) (fun _ _ _ _ _ => (pe_ix dIx (pv 8) pe_int (fun _ _ => rfl)))))) (pa_cons (pe_ix dIx (pv 3) pe_int (fun _ _ => rfl)) pa_nil))))))) pss_nil))
      (psst_cons (PST.of (ps_for PassesOwn.never rfl (pi_tup (pe_tup (pa_cons (pe_tup (pa_cons pe_str (pa_cons pe_bl pa_nil))) (pa_cons (pe_tup (pa_cons pe_str (pa_cons pe_bl pa_nil))) pa_nil)))) (pg_tup (n := 2) rfl (pgs_cons (pg_name (i := 4) sc__law_part.nd rfl (Or.inl rfl)) (pgs_cons (pg_name (i := 5) sc__law_part.nd rfl (Or.inl rfl)) pgs_nil))) (pss_one (ps_if (pt_cmpR dEq (pe_slice dSlS (pv 0) (po_some (pv 1)) (po_some (pe_op dAddX (pv 1) (pe_callB dLen (by rfl) T.n_len PyProof.Rows.Boot.«len» (pa_cons (pv 4) pa_nil))))) (pv 4) (nomark _)) (pss_one (ps_ret (pe_tup (pa_cons (pv 5) (pa_cons (pe_op dAddX (pv 1) (pe_callB dLen (by rfl) T.n_len PyProof.Rows.Boot.«len» (pa_cons (pv 4) pa_nil))) pa_nil))))) pss_nil))))
      (psst_cons (PST.of (ps_set (i := 6) sc__law_part.nd rfl (Or.inl rfl) (pe_op dAddX (pv 1) (pe_callTy dIntOf (by rfl) T.n_int PyProof.Rows.Boot.«int» (pa_cons (pe_cmpR dEq (pv 2) pe_str (nomark _)) pa_nil)))))
      (psst_cons (PST.of (ps_while PassesOwn.never (PW.pt (pw_and (pt_cmpR dLt (pv 6) (pe_callB dLen (by rfl) T.n_len PyProof.Rows.Boot.«len» (pa_cons (pv 0) pa_nil)) (nomark _)) (pw_and1 (pt_cmpR dInX (pe_ix dIx (pv 0) (pv 6) (fun _ _ => rfl)) pe_str (by rfl))))) (pss_one (ps_set (i := 6) sc__law_part.nd rfl (Or.inl rfl) (pe_op dAddX (pv 6) pe_int)))))
      (psst_cons (pst_set (i := 7) sc__law_part.nd rfl (Or.inl rfl) (CwR.pet_replC (pe_slice dSlS (pv 0) (po_some (pv 1)) (po_some (pv 6)))))
      (psst_cons (PST.of (ps_if (pt_cmpR dEq (pv 7) pe_str (nomark _)) (pss_one (ps_ret (pe_ifExp (pt_cmpR dEq (pv 2) pe_str (nomark _)) (pe_tup (pa_cons pe_non (pa_cons (pe_op dAddX (pv 1) pe_int) pa_nil))) pe_non))) pss_nil))
      (psst_cons (PST.of (ps_if (PW.pt (pw_and (pt_cmpR dEq (pe_ix dIx (pv 7) pe_int (fun _ _ => rfl)) pe_str (nomark _)) (pw_and1 (PW.pt (pw_or (pt_cmpR dGt (pe_callB dLen (by rfl) T.n_len PyProof.Rows.Boot.«len» (pa_cons (pv 7) pa_nil)) pe_int (nomark _)) (pw_or1 (pt_cmpR dEq (pv 2) pe_str (nomark _)))))))) (pss_one (ps_ret pe_non)) pss_nil))
      (CwR.psst_one (PST.of (ps_ret (pe_tup (pa_cons (pe_callTy dIntS (by rfl) T.n_int PyProof.Rows.Boot.«int» (pa_cons (pe_slice dSlS (pv 0) (po_some (pv 1)) (po_some (pv 6))) pa_nil)) (pa_cons (pv 6) pa_nil))))))))))))))), inferInstance, ?_⟩)
  · obtain ⟨z, i, rfl, _⟩ := h
    rfl
  obtain ⟨z, i, rfl, hz, hi, hb, k⟩ := h
  generalize hU : DSeq (DSet 7 _) _ = UU
  simp (maxSteps := 4000000) only [DVar, DCon, DLock, DLockV, DCons, DNil, DOp, DOpN, DUn, DTup, DLst, DCB, DCBN, DMt, DMtN, isB, DB, DNot, DAnd, DOr, DAndV, DOrV, DNotV, DIf, DChain, DNext, DSeq, DIfS, DRet, DDrop, DSet, DSetN, GName, GNil, GCons, GTup, DAsgG, DPar, isL, isT, isS, isI, IList, ITup, IStr, IRng1, IRng2, DFor, DLc, DYes, RInt, RIntC, RStr, RCatS, eqC, REq, RNe, isNone, RIsN, RNotN, RInS, RIx, RSlS, ONone, OSome, DSl, DSlN, on1, on2, RLen, RIntOf, RIntS, RStrI, RAbs, RMin2, RMax2, RAll, RAny, NList, RTuple, RReprD, MStarts, MFind, MJoin, tyB, DIs, DIs3, DApp, DCall, DCallX, DRaise, startD, RAdd, RLe, RInX, NCat, RMulX, NSlL, DFzS, DAug, DCallP, startP, wipeD, IItems, DDGet, DDIn, NSortedD, NListD, MDict, DCBM, DParND, DParNN, DPar3N, DPar3, GPut, DPeek, DNe0, DPop, DLenO, DPar3M, DRepl, flD, inF, eqF, List.length_cons, List.length_nil, List.map_cons, List.map_nil, List.replicate_succ, List.replicate_zero, List.cons_append, List.nil_append, List.getElem?_cons_zero, List.getElem?_cons_succ, List.set_cons_zero, List.set_cons_succ, Nat.reduceAdd, Nat.reduceSub, Nat.zero_add, Bool.not_true, Bool.not_false, Bool.false_eq_true, if_true, if_false, reduceIte, reduceCtorEq, beq_self_eq_true, Bool.true_or, Bool.or_true, Bool.false_or, Bool.or_false, String.reduceBEq, Option.some.injEq, false_and, and_false, exists_const, true_and, and_true, PyData.str.injEq, exists_eq', exists_eq_left', Nat.reduceLeDiff, DV.l.injEq, DV.m.injEq, DV.pot.injEq, List.all_cons, List.all_nil, List.any_cons, List.any_nil, Bool.and_self, Bool.and_true, Bool.true_and]
  have lt : ∀ {c : Nat}, (cs z)[i]? = some c → i < z.length := fun h => by
    have := (List.getElem?_eq_some_iff.mp h).1
    rwa [len_cs] at this
  have ecut : cutS z (some (i : Int)) (some ((i : Int) + 1)) = ofL (sub (cs z) i (i + 1)) := cut_eq (i := i) (j := i + 1)
  have q1 : Str.ofString "\"" = ofL [34] := by decide +kernel
  have q2 : Str.ofString "[" = ofL [91] := by decide +kernel
  have q3 : Str.ofString "{" = ofL [123] := by decide +kernel
  have q4 : Str.ofString "-" = ofL [45] := by decide +kernel
  have sg : ∀ c : Nat, decide (cutS z (some (i : Int)) (some ((i : Int) + 1)) = ofL [c]) = decide ((cs z)[i]? = some c) := fun c => cut1
  have sb : ∀ c : Nat, (ofL [c] == cutS z (some (i : Int)) (some ((i : Int) + 1))) = decide ((cs z)[i]? = some c) := fun c => by
    rw [← sg c, Bool.eq_iff_iff, beq_iff_eq, decide_eq_true_eq]
    exact eq_comm
  rw [q1, q2, q3, sb, sb]
  simp only [sg]
  refine ⟨by omega, ?_⟩
  unfold partN at k
  by_cases h1 : (cs z)[i]? = some 34
  · rw [if_pos h1] at k
    rw [if_pos (decide_eq_true h1)]
    exact ⟨z, i, rfl, hz, lt h1, k⟩
  rw [if_neg h1] at k
  rw [if_neg (by simp only [decide_eq_true_eq]; exact h1)]
  by_cases h2 : (cs z)[i]? = some 91
  · rw [if_pos h2] at k
    have := br_next h2 (by decide)
    have h3 : ¬ (cs z)[i]? = some 123 := by rw [h2]; decide
    rw [decide_eq_true h2, decide_eq_false h3]
    rw [if_pos (by decide)]
    refine ⟨z, i, false, rfl, hz, lt h2, by omega, ?_⟩
    simp only [Bool.false_eq_true, if_false]
    cases q : lstAt (partN n (cs z)) (cs z) i with
    | none =>
      rw [q] at k
      simp only [itmP, if_true]
      exact k
    | some p =>
      obtain ⟨d, e⟩ := p
      rw [q] at k
      obtain ⟨xs, rfl, hxl⟩ := lstAt_some q
      rw [len_cs] at hxl
      simp only [itmP, rowsP, Bool.false_eq_true, if_false]
      refine ⟨_, rfl, ?_⟩
      simp only
      refine lc_map (fun d => match d with
        | .tuple [_, d] => d
        | _ => .none) (fun t y hy Q hQ => ?_) ?_ (by rw [List.length_map]; omega)
      · rw [List.getElem?_map] at hy
        cases q2 : xs[t]? with
        | none => rw [q2] at hy; cases hy
        | some x =>
          rw [q2] at hy
          cases hy
          simp (maxSteps := 4000000) only [DVar, DCon, DLock, DLockV, DCons, DNil, DOp, DOpN, DUn, DTup, DLst, DCB, DCBN, DMt, DMtN, isB, DB, DNot, DAnd, DOr, DAndV, DOrV, DNotV, DIf, DChain, DNext, DSeq, DIfS, DRet, DDrop, DSet, DSetN, GName, GNil, GCons, GTup, DAsgG, DPar, isL, isT, isS, isI, IList, ITup, IStr, IRng1, IRng2, DFor, DLc, DYes, RInt, RIntC, RStr, RCatS, eqC, REq, RNe, isNone, RIsN, RNotN, RInS, RIx, RSlS, ONone, OSome, DSl, DSlN, on1, on2, RLen, RIntOf, RIntS, RStrI, RAbs, RMin2, RMax2, RAll, RAny, NList, RTuple, RReprD, MStarts, MFind, MJoin, tyB, DIs, DIs3, DApp, DCall, DCallX, DRaise, startD, RAdd, RLe, RInX, NCat, RMulX, NSlL, DFzS, DAug, DCallP, startP, wipeD, IItems, DDGet, DDIn, NSortedD, NListD, MDict, DCBM, DParND, DParNN, DPar3N, DPar3, GPut, DPeek, DNe0, DPop, DLenO, DPar3M, DRepl, flD, inF, eqF, List.length_cons, List.length_nil, List.map_cons, List.map_nil, List.replicate_succ, List.replicate_zero, List.cons_append, List.nil_append, List.getElem?_cons_zero, List.getElem?_cons_succ, List.set_cons_zero, List.set_cons_succ, Nat.reduceAdd, Nat.reduceSub, Nat.zero_add, Bool.not_true, Bool.not_false, Bool.false_eq_true, if_true, if_false, reduceIte, reduceCtorEq, beq_self_eq_true, Bool.true_or, Bool.or_true, Bool.false_or, Bool.or_false, String.reduceBEq, Option.some.injEq, false_and, and_false, exists_const, true_and, and_true, PyData.str.injEq, exists_eq', exists_eq_left', Nat.reduceLeDiff, DV.l.injEq, DV.m.injEq, DV.pot.injEq, List.all_cons, List.all_nil, List.any_cons, List.any_nil, Bool.and_self, Bool.and_true, Bool.true_and]
          exact ⟨_, rfl, hQ _ rfl⟩
      · simp (maxSteps := 4000000) only [DVar, DCon, DLock, DLockV, DCons, DNil, DOp, DOpN, DUn, DTup, DLst, DCB, DCBN, DMt, DMtN, isB, DB, DNot, DAnd, DOr, DAndV, DOrV, DNotV, DIf, DChain, DNext, DSeq, DIfS, DRet, DDrop, DSet, DSetN, GName, GNil, GCons, GTup, DAsgG, DPar, isL, isT, isS, isI, IList, ITup, IStr, IRng1, IRng2, DFor, DLc, DYes, RInt, RIntC, RStr, RCatS, eqC, REq, RNe, isNone, RIsN, RNotN, RInS, RIx, RSlS, ONone, OSome, DSl, DSlN, on1, on2, RLen, RIntOf, RIntS, RStrI, RAbs, RMin2, RMax2, RAll, RAny, NList, RTuple, RReprD, MStarts, MFind, MJoin, tyB, DIs, DIs3, DApp, DCall, DCallX, DRaise, startD, RAdd, RLe, RInX, NCat, RMulX, NSlL, DFzS, DAug, DCallP, startP, wipeD, IItems, DDGet, DDIn, NSortedD, NListD, MDict, DCBM, DParND, DParNN, DPar3N, DPar3, GPut, DPeek, DNe0, DPop, DLenO, DPar3M, DRepl, flD, inF, eqF, List.length_cons, List.length_nil, List.map_cons, List.map_nil, List.replicate_succ, List.replicate_zero, List.cons_append, List.nil_append, List.getElem?_cons_zero, List.getElem?_cons_succ, List.set_cons_zero, List.set_cons_succ, Nat.reduceAdd, Nat.reduceSub, Nat.zero_add, Bool.not_true, Bool.not_false, Bool.false_eq_true, if_true, if_false, reduceIte, reduceCtorEq, beq_self_eq_true, Bool.true_or, Bool.or_true, Bool.false_or, Bool.or_false, String.reduceBEq, Option.some.injEq, false_and, and_false, exists_const, true_and, and_true, PyData.str.injEq, exists_eq', exists_eq_left', Nat.reduceLeDiff, DV.l.injEq, DV.m.injEq, DV.pot.injEq, List.all_cons, List.all_nil, List.any_cons, List.any_nil, Bool.and_self, Bool.and_true, Bool.true_and]
        refine ⟨_, rfl, ?_⟩
        rw [List.map_map]
        have : (((fun d => match d with
          | PyData.tuple [_, d] => d
          | _ => .none) : PyData → PyData) ∘ fun d => PyData.tuple [.str (Str.ofString ""), d]) = id := funext fun d => rfl
        rw [this, List.map_id]
        exact k
  rw [if_neg h2] at k
  by_cases h3 : (cs z)[i]? = some 123
  · rw [if_pos h3] at k
    have := br_next h3 (by decide)
    rw [decide_eq_true h3]
    rw [if_pos (by simp)]
    refine ⟨z, i, true, rfl, hz, lt h3, by omega, ?_⟩
    simp only [if_true]
    cases q : recAt (partN n (cs z)) (cs z) i with
    | none =>
      rw [q] at k
      simp only [itmP, if_true]
      exact k
    | some p =>
      obtain ⟨d, e⟩ := p
      rw [q] at k
      obtain ⟨acc, rfl, hm⟩ := recAt_some q
      simp only [itmP, rows_dict, Bool.false_eq_true, if_false]
      refine ⟨_, rfl, acc, rfl, _, rfl, ?_⟩
      rw [hm]
      exact k
  rw [if_neg h3] at k
  rw [decide_eq_false h2, decide_eq_false h3, if_neg (by decide)]
  have y1 : decide (cutS z (some (i : Int)) (some ((i : Int) + ((Str.ofString "yes").length : Nat))) = Str.ofString "yes") = pre [121, 101, 115] (cs z) i := by
    rw [show Str.ofString "yes" = ofL [121, 101, 115] from by decide +kernel]
    exact cutk [121, 101, 115] 3 rfl
  have y2 : decide (cutS z (some (i : Int)) (some ((i : Int) + ((Str.ofString "no").length : Nat))) = Str.ofString "no") = pre [110, 111] (cs z) i := by
    rw [show Str.ofString "no" = ofL [110, 111] from by decide +kernel]
    exact cutk [110, 111] 2 rfl
  refine ⟨fun t ρ => ∃ x4 x5 : Option DV, ρ = [some (.d (.str z)), some (.d (.int i)), some (.d (.str (cutS z (some (i : Int)) (some ((i : Int) + 1))))), none, x4, x5, none, none, none] ∧ (1 ≤ t → pre [121, 101, 115] (cs z) i = false) ∧ (2 ≤ t → pre [110, 111] (cs z) i = false), ⟨none, none, rfl, fun h => by omega, fun h => by omega⟩, ?_, ?_⟩
  · rintro t x ρ hx ⟨x4, x5, rfl, a1, a2⟩
    match t, hx with
    | 0, hx =>
      cases hx
      simp (maxSteps := 4000000) only [DVar, DCon, DLock, DLockV, DCons, DNil, DOp, DOpN, DUn, DTup, DLst, DCB, DCBN, DMt, DMtN, isB, DB, DNot, DAnd, DOr, DAndV, DOrV, DNotV, DIf, DChain, DNext, DSeq, DIfS, DRet, DDrop, DSet, DSetN, GName, GNil, GCons, GTup, DAsgG, DPar, isL, isT, isS, isI, IList, ITup, IStr, IRng1, IRng2, DFor, DLc, DYes, RInt, RIntC, RStr, RCatS, eqC, REq, RNe, isNone, RIsN, RNotN, RInS, RIx, RSlS, ONone, OSome, DSl, DSlN, on1, on2, RLen, RIntOf, RIntS, RStrI, RAbs, RMin2, RMax2, RAll, RAny, NList, RTuple, RReprD, MStarts, MFind, MJoin, tyB, DIs, DIs3, DApp, DCall, DCallX, DRaise, startD, RAdd, RLe, RInX, NCat, RMulX, NSlL, DFzS, DAug, DCallP, startP, wipeD, IItems, DDGet, DDIn, NSortedD, NListD, MDict, DCBM, DParND, DParNN, DPar3N, DPar3, GPut, DPeek, DNe0, DPop, DLenO, DPar3M, DRepl, flD, inF, eqF, List.length_cons, List.length_nil, List.map_cons, List.map_nil, List.replicate_succ, List.replicate_zero, List.cons_append, List.nil_append, List.getElem?_cons_zero, List.getElem?_cons_succ, List.set_cons_zero, List.set_cons_succ, Nat.reduceAdd, Nat.reduceSub, Nat.zero_add, Bool.not_true, Bool.not_false, Bool.false_eq_true, if_true, if_false, reduceIte, reduceCtorEq, beq_self_eq_true, Bool.true_or, Bool.or_true, Bool.false_or, Bool.or_false, String.reduceBEq, Option.some.injEq, false_and, and_false, exists_const, true_and, and_true, PyData.str.injEq, exists_eq', exists_eq_left', Nat.reduceLeDiff, DV.l.injEq, DV.m.injEq, DV.pot.injEq, List.all_cons, List.all_nil, List.any_cons, List.any_nil, Bool.and_self, Bool.and_true, Bool.true_and]
      refine ⟨by decide, by omega, ?_⟩
      rw [y1]
      cases h4 : pre [121, 101, 115] (cs z) i with
      | true =>
        rw [if_pos h4] at k
        rw [if_pos rfl]
        exact ⟨by decide, k⟩
      | false =>
        rw [if_neg (by decide)]
        exact ⟨_, _, rfl, fun _ => rfl, fun h => absurd h (by decide)⟩
    | 1, hx =>
      cases hx
      simp (maxSteps := 4000000) only [DVar, DCon, DLock, DLockV, DCons, DNil, DOp, DOpN, DUn, DTup, DLst, DCB, DCBN, DMt, DMtN, isB, DB, DNot, DAnd, DOr, DAndV, DOrV, DNotV, DIf, DChain, DNext, DSeq, DIfS, DRet, DDrop, DSet, DSetN, GName, GNil, GCons, GTup, DAsgG, DPar, isL, isT, isS, isI, IList, ITup, IStr, IRng1, IRng2, DFor, DLc, DYes, RInt, RIntC, RStr, RCatS, eqC, REq, RNe, isNone, RIsN, RNotN, RInS, RIx, RSlS, ONone, OSome, DSl, DSlN, on1, on2, RLen, RIntOf, RIntS, RStrI, RAbs, RMin2, RMax2, RAll, RAny, NList, RTuple, RReprD, MStarts, MFind, MJoin, tyB, DIs, DIs3, DApp, DCall, DCallX, DRaise, startD, RAdd, RLe, RInX, NCat, RMulX, NSlL, DFzS, DAug, DCallP, startP, wipeD, IItems, DDGet, DDIn, NSortedD, NListD, MDict, DCBM, DParND, DParNN, DPar3N, DPar3, GPut, DPeek, DNe0, DPop, DLenO, DPar3M, DRepl, flD, inF, eqF, List.length_cons, List.length_nil, List.map_cons, List.map_nil, List.replicate_succ, List.replicate_zero, List.cons_append, List.nil_append, List.getElem?_cons_zero, List.getElem?_cons_succ, List.set_cons_zero, List.set_cons_succ, Nat.reduceAdd, Nat.reduceSub, Nat.zero_add, Bool.not_true, Bool.not_false, Bool.false_eq_true, if_true, if_false, reduceIte, reduceCtorEq, beq_self_eq_true, Bool.true_or, Bool.or_true, Bool.false_or, Bool.or_false, String.reduceBEq, Option.some.injEq, false_and, and_false, exists_const, true_and, and_true, PyData.str.injEq, exists_eq', exists_eq_left', Nat.reduceLeDiff, DV.l.injEq, DV.m.injEq, DV.pot.injEq, List.all_cons, List.all_nil, List.any_cons, List.any_nil, Bool.and_self, Bool.and_true, Bool.true_and]
      refine ⟨by decide, by omega, ?_⟩
      rw [y2]
      rw [if_neg (by rw [a1 (by omega)]; decide)] at k
      cases h4 : pre [110, 111] (cs z) i with
      | true =>
        rw [if_pos h4] at k
        rw [if_pos rfl]
        exact ⟨by decide, k⟩
      | false =>
        rw [if_neg (by decide)]
        exact ⟨_, _, rfl, fun _ => a1 (by omega), fun _ => rfl⟩
    | t + 2, hx => simp at hx
  · rintro ρ ⟨x4, x5, rfl, a1, a2⟩
    have a1 := a1 (by simp)
    have a2 := a2 (by simp)
    rw [if_neg (by rw [a1]; decide), if_neg (by rw [a2]; decide)] at k
    simp (maxSteps := 4000000) only [DVar, DCon, DLock, DLockV, DCons, DNil, DOp, DOpN, DUn, DTup, DLst, DCB, DCBN, DMt, DMtN, isB, DB, DNot, DAnd, DOr, DAndV, DOrV, DNotV, DIf, DChain, DNext, DSeq, DIfS, DRet, DDrop, DSet, DSetN, GName, GNil, GCons, GTup, DAsgG, DPar, isL, isT, isS, isI, IList, ITup, IStr, IRng1, IRng2, DFor, DLc, DYes, RInt, RIntC, RStr, RCatS, eqC, REq, RNe, isNone, RIsN, RNotN, RInS, RIx, RSlS, ONone, OSome, DSl, DSlN, on1, on2, RLen, RIntOf, RIntS, RStrI, RAbs, RMin2, RMax2, RAll, RAny, NList, RTuple, RReprD, MStarts, MFind, MJoin, tyB, DIs, DIs3, DApp, DCall, DCallX, DRaise, startD, RAdd, RLe, RInX, NCat, RMulX, NSlL, DFzS, DAug, DCallP, startP, wipeD, IItems, DDGet, DDIn, NSortedD, NListD, MDict, DCBM, DParND, DParNN, DPar3N, DPar3, GPut, DPeek, DNe0, DPop, DLenO, DPar3M, DRepl, flD, inF, eqF, List.length_cons, List.length_nil, List.map_cons, List.map_nil, List.replicate_succ, List.replicate_zero, List.cons_append, List.nil_append, List.getElem?_cons_zero, List.getElem?_cons_succ, List.set_cons_zero, List.set_cons_succ, Nat.reduceAdd, Nat.reduceSub, Nat.zero_add, Bool.not_true, Bool.not_false, Bool.false_eq_true, if_true, if_false, reduceIte, reduceCtorEq, beq_self_eq_true, Bool.true_or, Bool.or_true, Bool.false_or, Bool.or_false, String.reduceBEq, Option.some.injEq, false_and, and_false, exists_const, true_and, and_true, PyData.str.injEq, exists_eq', exists_eq_left', Nat.reduceLeDiff, DV.l.injEq, DV.m.injEq, DV.pot.injEq, List.all_cons, List.all_nil, List.any_cons, List.any_nil, Bool.and_self, Bool.and_true, Bool.true_and]
    rw [q4, sg]
    obtain ⟨f, hf⟩ : ∃ f : Nat, f = if (cs z)[i]? = some 45 then i + 1 else i := ⟨_, rfl⟩
    have ef : ((i : Int) + if decide ((cs z)[i]? = some 45) = true then 1 else 0) = (f : Int) := by
      rw [hf]
      by_cases h : (cs z)[i]? = some 45
      · rw [if_pos (decide_eq_true h), if_pos h]
        rfl
      · rw [if_neg (by rw [decide_eq_false h]; decide), if_neg h]
        omega
    have fl : f ≤ z.length ∧ i ≤ f ∧ f ≤ i + 1 := by
      rw [hf]
      split
      · rename_i h
        have := lt h
        omega
      · omega
    rw [ef]
    refine DWhile.inv (fun t ρ => ∃ s : Nat, ρ = [some (.d (.str z)), some (.d (.int i)), some (.d (.str (cutS z (some (i : Int)) (some ((i : Int) + 1))))), none, x4, x5, some (.d (.int s)), none, none] ∧ f ≤ s ∧ s ≤ z.length ∧ digs (cs z) s = digs (cs z) f ∧ t = z.length - s)
      (fun ρ => ρ = [some (.d (.str z)), some (.d (.int i)), some (.d (.str (cutS z (some (i : Int)) (some ((i : Int) + 1))))), none, x4, x5, some (.d (.int (digs (cs z) f))), none, none]) _ ⟨f, rfl, Nat.le_refl _, fl.1, rfl, rfl⟩ ?_ ?_
    · rintro ρ rfl
      rw [← hU]
      simp (maxSteps := 4000000) only [DVar, DCon, DLock, DLockV, DCons, DNil, DOp, DOpN, DUn, DTup, DLst, DCB, DCBN, DMt, DMtN, isB, DB, DNot, DAnd, DOr, DAndV, DOrV, DNotV, DIf, DChain, DNext, DSeq, DIfS, DRet, DDrop, DSet, DSetN, GName, GNil, GCons, GTup, DAsgG, DPar, isL, isT, isS, isI, IList, ITup, IStr, IRng1, IRng2, DFor, DLc, DYes, RInt, RIntC, RStr, RCatS, eqC, REq, RNe, isNone, RIsN, RNotN, RInS, RIx, RSlS, ONone, OSome, DSl, DSlN, on1, on2, RLen, RIntOf, RIntS, RStrI, RAbs, RMin2, RMax2, RAll, RAny, NList, RTuple, RReprD, MStarts, MFind, MJoin, tyB, DIs, DIs3, DApp, DCall, DCallX, DRaise, startD, RAdd, RLe, RInX, NCat, RMulX, NSlL, DFzS, DAug, DCallP, startP, wipeD, IItems, DDGet, DDIn, NSortedD, NListD, MDict, DCBM, DParND, DParNN, DPar3N, DPar3, GPut, DPeek, DNe0, DPop, DLenO, DPar3M, DRepl, flD, inF, eqF, List.length_cons, List.length_nil, List.map_cons, List.map_nil, List.replicate_succ, List.replicate_zero, List.cons_append, List.nil_append, List.getElem?_cons_zero, List.getElem?_cons_succ, List.set_cons_zero, List.set_cons_succ, Nat.reduceAdd, Nat.reduceSub, Nat.zero_add, Bool.not_true, Bool.not_false, Bool.false_eq_true, if_true, if_false, reduceIte, reduceCtorEq, beq_self_eq_true, Bool.true_or, Bool.or_true, Bool.false_or, Bool.or_false, String.reduceBEq, Option.some.injEq, false_and, and_false, exists_const, true_and, and_true, PyData.str.injEq, exists_eq', exists_eq_left', Nat.reduceLeDiff, DV.l.injEq, DV.m.injEq, DV.pot.injEq, List.all_cons, List.all_nil, List.any_cons, List.any_nil, Bool.and_self, Bool.and_true, Bool.true_and]
      have ed := digs_le (l := cs z) (i := f) (by rw [len_cs]; exact fl.1)
      have eg := digs_ge (l := cs z) (i := f)
      rw [len_cs] at ed
      have ec : cutS z (some (i : Int)) (some ((digs (cs z) f : Nat) : Int)) = ofL (sub (cs z) i (digs (cs z) f)) := cut_eq
      rw [ec, repl_eq, cs_ofL, figs hf]
      have l0 : (Str.ofString "").length = 0 := by decide
      have hl : (sub (cs z) i (digs (cs z) f)).length ≤ 600 := by rw [sub_len (by rw [len_cs]; exact ed)]; omega
      have hl2 : (sub (cs z) f (digs (cs z) f)).length = digs (cs z) f - f := sub_len (by rw [len_cs]; exact ed)
      have k0 := k
      rw [q4, sg, len_ofL, len_ofL, l0, hl2]
      refine ⟨by omega, by omega, ?_⟩
      have hemp : decide (ofL (sub (cs z) f (digs (cs z) f)) = Str.ofString "") = decide (digs (cs z) f = f) := by
        rw [Bool.eq_iff_iff, decide_eq_true_eq, decide_eq_true_eq]
        constructor
        · intro q
          have := congrArg Str.length q
          rw [len_ofL, hl2, l0] at this
          omega
        · intro q
          rw [q, show Str.ofString "" = ofL [] from by decide +kernel]
          unfold sub
          rw [Nat.sub_self, List.take_zero]
      rw [hemp]
      by_cases g1 : digs (cs z) f = f
      · rw [if_pos (decide_eq_true g1)]
        by_cases g2 : (cs z)[i]? = some 45
        · rw [if_pos (decide_eq_true g2)]
          have g3 : ¬ ∃ c, (cs z)[i + 1]? = some c ∧ isDig c = true := by
            rintro ⟨c, hc, hd⟩
            rw [if_pos g2] at hf
            subst hf
            rw [digs_next hc, if_pos hd] at g1
            have := digs_ge (l := cs z) (i := i + 1 + 1)
            omega
          rw [if_pos ⟨g2, g3⟩] at k
          exact k
        · rw [if_neg (by simp only [decide_eq_true_eq]; exact g2)]
          rw [if_neg (fun q => g2 q.1)] at k
          unfold numAt at k
          simp only [← hf] at k
          rw [if_pos (.inl g1)] at k
          exact k
      rw [if_neg (by simp only [decide_eq_true_eq]; exact g1)]
      have hfl : f < z.length := by omega
      have hc : (cs z)[f]? = some ((cs z)[f]'(by rw [len_cs]; exact hfl)) := List.getElem?_eq_getElem _
      generalize (cs z)[f]'(by rw [len_cs]; exact hfl) = c at hc
      have hdig : isDig c = true := by
        cases q : isDig c with
        | true => rfl
        | false =>
          rw [digs_next hc, q] at g1
          exact absurd rfl g1
      have k1 : Kk (optP (numAt (cs z) i)) := by
        rw [if_neg] at k
        · exact k
        · rintro ⟨g2, g3⟩
          rw [if_pos g2] at hf
          subst hf
          exact g3 ⟨c, hc, hdig⟩
      clear k
      have hat : atI (ofL (sub (cs z) f (digs (cs z) f))).cps.toList 0 = some c := by
        have : (sub (cs z) f (digs (cs z) f))[0]? = some c := by
          unfold sub
          rw [drop_at hc, show digs (cs z) f - f = (digs (cs z) f - f - 1) + 1 by omega]
          rfl
        exact at_nat (i := 0) this
      refine ⟨by omega, c, hat, ?_⟩
      have e0 : decide (({ cps := #[c] } : Str) = Str.ofString "0") = decide (c = 48) := one_eq (by decide +kernel)
      rw [e0]
      unfold numAt at k1
      simp only [← hf] at k1
      have fin : ¬ (digs (cs z) f = f ∨ ((cs z)[f]? = some 48 ∧ digs (cs z) f - i > 1)) → z.length ≤ 16777216 ∧ ∃ n, intText? (ofL (sub (cs z) i (digs (cs z) f))) = some n ∧ (sub (cs z) i (digs (cs z) f)).length ≤ 640 ∧ Kk (.tuple [.int n, .int ((digs (cs z) f : Nat) : Int)]) := fun hn => by
        rw [if_neg hn] at k1
        obtain ⟨n, hn'⟩ : ∃ n, intText? (ofL (sub (cs z) i (digs (cs z) f))) = some n := int_at (by rw [hf]) g1 (by rw [len_cs]; exact ed) hl
        rw [hn'] at k1
        exact ⟨by omega, n, hn', by omega, k1⟩
      by_cases h0 : c = 48
      · rw [if_pos (decide_eq_true h0)]
        refine ⟨by omega, ?_⟩
        by_cases g2 : 1 < digs (cs z) f - f
        · rw [if_pos (by simp; omega)]
          rw [if_pos (.inr ⟨by rw [hc, h0], by omega⟩)] at k1
          exact k1
        · rw [if_neg (by simp; omega)]
          by_cases g3 : (cs z)[i]? = some 45
          · rw [if_pos (decide_eq_true g3)]
            rw [if_pos (.inr ⟨by rw [hc, h0], by rw [if_pos g3] at hf; omega⟩)] at k1
            exact k1
          · rw [if_neg (by simp only [decide_eq_true_eq]; exact g3)]
            refine fin (fun q => q.elim g1 fun y => ?_)
            rw [if_neg g3] at hf
            have := y.2
            omega
      · rw [if_neg (by simp [h0])]
        refine fin (fun q => q.elim g1 fun y => h0 ?_)
        have := y.1
        rw [hc] at this
        exact Option.some.inj this
    · rintro t ρ ⟨s, rfl, hfs, hs, he, rfl⟩ Q hQ
      simp (maxSteps := 4000000) only [DVar, DCon, DLock, DLockV, DCons, DNil, DOp, DOpN, DUn, DTup, DLst, DCB, DCBN, DMt, DMtN, isB, DB, DNot, DAnd, DOr, DAndV, DOrV, DNotV, DIf, DChain, DNext, DSeq, DIfS, DRet, DDrop, DSet, DSetN, GName, GNil, GCons, GTup, DAsgG, DPar, isL, isT, isS, isI, IList, ITup, IStr, IRng1, IRng2, DFor, DLc, DYes, RInt, RIntC, RStr, RCatS, eqC, REq, RNe, isNone, RIsN, RNotN, RInS, RIx, RSlS, ONone, OSome, DSl, DSlN, on1, on2, RLen, RIntOf, RIntS, RStrI, RAbs, RMin2, RMax2, RAll, RAny, NList, RTuple, RReprD, MStarts, MFind, MJoin, tyB, DIs, DIs3, DApp, DCall, DCallX, DRaise, startD, RAdd, RLe, RInX, NCat, RMulX, NSlL, DFzS, DAug, DCallP, startP, wipeD, IItems, DDGet, DDIn, NSortedD, NListD, MDict, DCBM, DParND, DParNN, DPar3N, DPar3, GPut, DPeek, DNe0, DPop, DLenO, DPar3M, DRepl, flD, inF, eqF, List.length_cons, List.length_nil, List.map_cons, List.map_nil, List.replicate_succ, List.replicate_zero, List.cons_append, List.nil_append, List.getElem?_cons_zero, List.getElem?_cons_succ, List.set_cons_zero, List.set_cons_succ, Nat.reduceAdd, Nat.reduceSub, Nat.zero_add, Bool.not_true, Bool.not_false, Bool.false_eq_true, if_true, if_false, reduceIte, reduceCtorEq, beq_self_eq_true, Bool.true_or, Bool.or_true, Bool.false_or, Bool.or_false, String.reduceBEq, Option.some.injEq, false_and, and_false, exists_const, true_and, and_true, PyData.str.injEq, exists_eq', exists_eq_left', Nat.reduceLeDiff, DV.l.injEq, DV.m.injEq, DV.pot.injEq, List.all_cons, List.all_nil, List.any_cons, List.any_nil, Bool.and_self, Bool.and_true, Bool.true_and]
      refine ⟨by omega, ?_⟩
      by_cases h : s < z.length
      · rw [if_pos (by simp; omega)]
        have hc : (cs z)[s]? = some ((cs z)[s]'(by rw [len_cs]; exact h)) := List.getElem?_eq_getElem _
        generalize (cs z)[s]'(by rw [len_cs]; exact h) = c at hc
        refine ⟨by omega, c, at_nat hc, c, rfl, ?_⟩
        rw [dig_mem]
        rw [digs_next hc] at he
        cases hd : isDig c with
        | true =>
          rw [hd] at he
          rw [if_pos rfl]
          exact ⟨z.length - (s + 1), by omega, s + 1, rfl, by omega, by omega, he, rfl⟩
        | false =>
          rw [hd] at he
          rw [if_neg (by decide)]
          refine hQ _ ?_
          rw [← he]
          rfl
      · rw [if_neg (by simp; omega)]
        rw [digs_end (by rw [len_cs]; omega)] at he
        refine hQ _ ?_
        rw [← he]
theorem ok_lpart (T : Tx P K mg) : ∀ n : Nat, FnOk P w K mg base CX0 (2 * n + 1) T.a__law_part T.fd__law_part ["_law_text", "_law_at"] (spD (FPart n))
  | 0 => fn_never fun vs H Q E h => by
      obtain ⟨ds, Kk, r, ⟨z, i, _, _, _, q, _⟩, _⟩ := h
      exact Nat.not_lt_zero _ q
  | n + 1 => lpart_step T (by omega) (ok_lpart T n)
end
end K88
end
section
set_option Elab.async false
set_option linter.all false
set_option maxRecDepth 100000
set_option maxHeartbeats 4000000
set_option exponentiation.threshold 3000
namespace K88
open PySem PySem.Spec PyProof.Rows L2 Tg Dw
/-! ### numbers are not long -/
theorem val_go : ∀ (a : List Nat) (x : Nat), NumText.AllDigits a → a.foldl (fun acc c => acc * 10 + (c - 48)) x < (x + 1) * 10 ^ a.length
  | [], x, _ => by simp
  | c :: r, x, h => by
    have hc := h c List.mem_cons_self
    have ih := val_go r (x * 10 + (c - 48)) fun d hd => h d (List.mem_cons_of_mem _ hd)
    rw [List.foldl_cons, List.length_cons, Nat.pow_succ]
    refine Nat.lt_of_lt_of_le ih ?_
    rw [Nat.mul_comm (10 ^ r.length) 10, ← Nat.mul_assoc]
    exact Nat.mul_le_mul_right _ (by omega)
theorem val_lt {a : List Nat} (h : NumText.AllDigits a) : NumText.digitsVal a < 10 ^ a.length := by
  have := val_go a 0 h
  rw [Nat.zero_add, Nat.one_mul] at this
  exact this
theorem ofS_len (s : String) : (Str.ofString s).length = s.length := by
  rw [Str.ofString_eq_toList]
  simp only [Str.length, List.size_toArray, List.length_map, String.length_toList]
theorem int_len {v : Int} {k : Nat} (hk : 0 < k) (h : v.natAbs < 10 ^ k) : (cs (Str.ofString (toString v))).length ≤ k + 1 := by
  rw [len_cs, ofS_len]
  cases v with
  | ofNat n =>
    have := (Nat.length_repr_le_iff (n := n) hk).mpr h
    show (Nat.repr n).length ≤ _
    omega
  | negSucc n =>
    have := (Nat.length_repr_le_iff (n := n + 1) hk).mpr h
    show ("-" ++ Nat.repr (n + 1)).length ≤ _
    rw [String.length_append]
    show 1 + _ ≤ _
    omega
theorem int_log {v : Int} (h : v.natAbs < 10 ^ 300) : v.natAbs.log2 < 1920 := by
  by_cases z : v.natAbs = 0
  · rw [z]
    decide
  · rw [Nat.log2_lt z]
    exact Nat.lt_trans h (by decide)
theorem int_fine {l : List Nat} {i f : Nat} (hl : l.length ≤ 300) (hf : f = if l[i]? = some 45 then i + 1 else i) (h1 : digs l f ≠ f) (ed : digs l f ≤ l.length) {v : Int} (hv : intText? (ofL (sub l i (digs l f))) = some v) : v.natAbs < 10 ^ 300 := by
  have ha := digs_all (l := l) (i := f)
  have eg := digs_ge (l := l) (i := f)
  have hsl := sub_len (l := l) (i := f) ed
  have hne : sub l f (digs l f) ≠ [] := fun z => by
    have := congrArg List.length z
    rw [hsl] at this
    simp at this
    omega
  have hlt := val_lt (digit_of ha)
  rw [hsl] at hlt
  have hp : 10 ^ (digs l f - f) ≤ 10 ^ 300 := Nat.pow_le_pow_right (by decide) (by omega)
  by_cases h : l[i]? = some 45
  · rw [if_pos h] at hf
    subst hf
    have e : sub l i (digs l (i + 1)) = 45 :: sub l (i + 1) (digs l (i + 1)) := by
      unfold sub
      rw [drop_at h, show digs l (i + 1) - i = (digs l (i + 1) - (i + 1)) + 1 by omega]
      rfl
    rw [e, intText_neg (x := ofL (45 :: sub l (i + 1) (digs l (i + 1)))) (cs := sub l (i + 1) (digs l (i + 1))) rfl (digit_of ha) hne (by rw [len_ofL, List.length_cons, hsl]; omega)] at hv
    cases hv
    rw [Int.natAbs_neg, Int.natAbs_natCast]
    omega
  · rw [if_neg h] at hf
    subst hf
    rw [intText_digits (x := ofL (sub l f (digs l f))) (digit_of ha) hne (by rw [len_ofL, hsl]; omega)] at hv
    cases hv
    rw [Int.natAbs_natCast]
    exact Nat.lt_of_lt_of_le hlt hp
theorem num_fine {l : List Nat} {i : Nat} {d : PyData} {j : Nat} (hl : l.length ≤ 300) (hi : i ≤ l.length) (h : numAt l i = some (d, j)) : ∃ v : Int, d = .int v ∧ v.natAbs < 10 ^ 300 := by
  unfold numAt at h
  simp only at h
  generalize hf : (if l[i]? = some 45 then i + 1 else i) = f at h
  have fl : f ≤ l.length := by
    rw [← hf]
    split
    · rename_i h
      exact (List.getElem?_eq_some_iff.mp h).1
    · exact hi
  split at h
  · cases h
  · rename_i hn
    have h1 : digs l f ≠ f := fun z => hn (.inl z)
    have ed := digs_le (l := l) fl
    cases h
    have hsl := sub_len (l := l) (i := i) ed
    obtain ⟨v, hv⟩ := int_at hf.symm h1 ed (by omega)
    refine ⟨_, rfl, ?_⟩
    rw [hv]
    exact int_fine hl hf.symm h1 ed hv
/-! ### what is read can be written -/
def Fine (n k : Nat) (d : PyData) : Prop := wok d = true ∧ d.depth ≤ n ∧ (wr d).length ≤ 700 * k
theorem join_len {a : List Nat} : ∀ (ys : List (List Nat)), (TL.joinL a ys).length ≤ (ys.map List.length).sum + ys.length * a.length
  | [] => by simp [TL.joinL]
  | [x] => by simp [TL.joinL]
  | x :: z :: r => by
    show (x ++ (a ++ TL.joinL a (z :: r))).length ≤ _
    have := join_len (a := a) (z :: r)
    rw [List.length_append, List.length_append, List.map_cons, List.sum_cons, List.length_cons, Nat.add_mul]
    omega
theorem wokL_of : ∀ {xs : List PyData} {n : Nat}, (∀ x ∈ xs, wok x = true ∧ x.depth ≤ n) → wokL xs = true ∧ PyData.depthAll xs ≤ n
  | [], n, _ => ⟨rfl, by simp [PyData.depthAll]⟩
  | x :: r, n, h => by
    have h1 := h x List.mem_cons_self
    have h2 := wokL_of fun y hy => h y (List.mem_cons_of_mem _ hy)
    simp only [wokL, PyData.depthAll, h1.1, h2.1, Bool.and_self, true_and]
    have := h1.2
    have := h2.2
    omega
theorem wokK_of : ∀ {xs : List (Str × PyData)} {n : Nat}, (∀ p ∈ xs, p.1.length ≤ 1000 ∧ wok p.2 = true ∧ p.2.depth ≤ n) → wokK (strP xs) = true ∧ PyData.depthKv (strP xs) ≤ n
  | [], n, _ => ⟨rfl, by simp [strP, PyData.depthKv]⟩
  | (k, x) :: r, n, h => by
    have h1 := h (k, x) List.mem_cons_self
    have h2 := wokK_of fun y hy => h y (List.mem_cons_of_mem _ hy)
    have e : strP ((k, x) :: r) = (.str k, x) :: strP r := rfl
    rw [e]
    simp only [wokK, PyData.depthKv, h1.2.1, h2.1, Bool.and_self, decide_eq_true h1.1, Bool.and_true, true_and]
    have := h1.2.2
    have := h2.2
    simp only [PyData.depth] at *
    omega
theorem wr_list {xs : List PyData} : (wr (.list xs)).length ≤ 2 + ((xs.map fun x => (wr x).length).sum + 2 * xs.length) := by
  simp only [wr, List.length_append, wrL_map]
  have := join_len (a := [44, 32]) (xs.map wr)
  rw [List.map_map, List.length_map] at this
  simp only [List.length_cons, List.length_nil] at this ⊢
  have e : (xs.map (List.length ∘ wr)).sum = (xs.map fun x => (wr x).length).sum := rfl
  omega
theorem look_self {x : Str} {d : PyData} : ∀ {acc : List (Str × PyData)}, (acc.map (·.1)).Nodup → (x, d) ∈ acc → lookP x acc = some d
  | (y, e) :: r, hn, h => by
    rw [List.map_cons, List.nodup_cons] at hn
    unfold lookP
    rcases List.mem_cons.mp h with z | z
    · cases z
      rw [if_pos rfl]
    · have : x ∈ r.map (·.1) := List.mem_map.mpr ⟨_, z, rfl⟩
      rw [if_neg (fun q => hn.1 (by rw [show y = x from q]; exact this))]
      exact look_self hn.2 z
theorem wr_dict {acc : List (Str × PyData)} (hn : (acc.map (·.1)).Nodup) : (wr (.dict (strP acc))).length ≤ 2 + ((acc.map fun p => p.1.length + 2 + (wr p.2).length).sum + 2 * acc.length) := by
  simp only [wr, List.length_append, keys_strP]
  generalize hf : (fun k => cs k ++ [58, 32] ++ lookW k (wrK (strP acc))) = f
  have := join_len (a := [44, 32]) ((srt (acc.map (·.1))).map f)
  rw [List.map_map, List.length_map] at this
  have pm := srt_perm (acc.map (·.1))
  have e1 : ((srt (acc.map (·.1))).map (List.length ∘ f)).sum = ((acc.map (·.1)).map (List.length ∘ f)).sum := (pm.map _).sum_nat
  have e2 : (acc.map (·.1)).map (List.length ∘ f) = acc.map fun p => p.1.length + 2 + (wr p.2).length := by
    rw [List.map_map]
    refine List.map_congr_left fun p hp => ?_
    have h1 := look_wr (look_self hn (show (p.1, p.2) ∈ acc from hp))
    show (f p.1).length = _
    rw [← hf]
    simp only [List.length_append, h1, len_cs, List.length_cons, List.length_nil]
  have e3 : (srt (acc.map (·.1))).length = acc.length := by rw [pm.length_eq, List.length_map]
  rw [e1, e2, e3] at this
  simp only [List.length_cons, List.length_nil] at this ⊢
  omega
theorem lst_fine {f : PF} {l : List Nat} {n : Nat} (hl : l.length ≤ 300) (hf : Goes f l) (hg : ∀ i d j, f i = some (d, j) → Fine n (j - i) d) {i0 : Nat} : ∀ {m i : Nat} {acc : List PyData} {d : PyData} {j : Nat}, i0 < i → i ≤ l.length + 1 → (∀ x ∈ acc, wok x = true ∧ x.depth ≤ n) → (acc.map fun x => (wr x).length).sum + 2 * acc.length ≤ 700 * (i - i0) → acc.length ≤ i → lstG f l m i acc = some (d, j) → Fine (n + 1) (j - i0) d
  | 0, i, acc, d, j, _, _, _, _, _, h => by cases h
  | m + 1, i, acc, d, j, h0, h1, h2, h3, h4, h => by
    unfold lstG at h
    split at h
    · cases h
    · rename_i d1 j1 q
      have g := hf _ _ _ q
      obtain ⟨w1, w2, w3⟩ := hg _ _ _ q
      have h2' : ∀ x ∈ acc ++ [d1], wok x = true ∧ x.depth ≤ n := fun x hx => by
        rcases List.mem_append.mp hx with hx | hx
        · exact h2 x hx
        · cases List.mem_singleton.mp hx
          exact ⟨w1, w2⟩
      have h3' : ((acc ++ [d1]).map fun x => (wr x).length).sum + 2 * (acc ++ [d1]).length ≤ 700 * (j1 - i0) + 2 := by
        simp only [List.map_append, List.map_cons, List.map_nil, List.sum_append, List.sum_cons, List.sum_nil, List.length_append, List.length_cons, List.length_nil]
        omega
      have h4' : (acc ++ [d1]).length ≤ j1 := by simp; omega
      split at h
      · rename_i hp
        have := pre_len hp (by decide)
        simp only [List.length_cons, List.length_nil] at this
        exact lst_fine hl hf hg (by omega) (by omega) h2' (by omega) (by omega) h
      · split at h
        · rename_i hq
          have := (List.getElem?_eq_some_iff.mp hq).1
          cases h
          obtain ⟨k1, k2⟩ := wokL_of h2'
          refine ⟨?_, ?_, ?_⟩
          · simp only [wok, k1, Bool.and_true, decide_eq_true_eq]
            omega
          · simp only [PyData.depth]
            omega
          · have := wr_list (xs := acc ++ [d1])
            omega
        · cases h
theorem rec_fine {f : PF} {l : List Nat} {n : Nat} (hl : l.length ≤ 300) (hf : Goes f l) (hg : ∀ i d j, f i = some (d, j) → Fine n (j - i) d) {i0 : Nat} : ∀ {m i : Nat} {acc : List (Str × PyData)} {d : PyData} {j : Nat}, i0 < i → i ≤ l.length + 1 → (∀ p ∈ acc, p.1.length ≤ 1000 ∧ wok p.2 = true ∧ p.2.depth ≤ n) → (acc.map fun p => p.1.length + 2 + (wr p.2).length).sum + 2 * acc.length ≤ 700 * (i - i0) → 6 * acc.length ≤ i → Rises acc → (acc.map (·.1)).Nodup → recG f l m i acc = some (d, j) → Fine (n + 1) (j - i0) d
  | 0, i, acc, d, j, _, _, _, _, _, _, _, h => by cases h
  | m + 1, i, acc, d, j, h0, h1, h2, h3, h4, hr, hn, h => by
    unfold recG at h
    split at h
    · rename_i hc
      split at h
      · cases h
      · rename_i d1 j1 q
        have g := hf _ _ _ q
        obtain ⟨w1, w2, w3⟩ := hg _ _ _ q
        have lg := lets_ge (l := l) (i := i)
        have hle : lets l i ≤ l.length := by omega
        have hkl : (ofL (sub l i (lets l i))).length = lets l i - i := by rw [len_ofL, sub_len hle]
        have hr' := rises_app (d := d1) (x := ofL (sub l i (lets l i))) hr hc.2.2
        have hx : ofL (sub l i (lets l i)) ∉ acc.map (·.1) := fun hm => by
          obtain ⟨p, hp, e⟩ := List.mem_map.mp hm
          have lt : (lastS acc).cps.toList < (ofL (sub l i (lets l i))).cps.toList := hc.2.2
          rcases hr p hp with z | z
          · rw [e] at z
            exact List.lt_asymm lt z
          · rw [← z, e] at lt
            exact List.lt_irrefl _ lt
        have h2' : ∀ p ∈ acc ++ [(ofL (sub l i (lets l i)), d1)], p.1.length ≤ 1000 ∧ wok p.2 = true ∧ p.2.depth ≤ n := fun x hx => by
          rcases List.mem_append.mp hx with hx | hx
          · exact h2 x hx
          · cases List.mem_singleton.mp hx
            exact ⟨by simp only; omega, w1, w2⟩
        have h3' : ((acc ++ [(ofL (sub l i (lets l i)), d1)]).map fun p => p.1.length + 2 + (wr p.2).length).sum + 2 * (acc ++ [(ofL (sub l i (lets l i)), d1)]).length ≤ 700 * (j1 - i0) + 2 := by
          simp only [List.map_append, List.map_cons, List.map_nil, List.sum_append, List.sum_cons, List.sum_nil, List.length_append, List.length_cons, List.length_nil]
          omega
        have h4' : 6 * (acc ++ [(ofL (sub l i (lets l i)), d1)]).length ≤ j1 + 2 := by
          have := hc.1
          simp only [List.length_append, List.length_cons, List.length_nil]
          omega
        have hn' : ((acc ++ [(ofL (sub l i (lets l i)), d1)]).map (·.1)).Nodup := by
          rw [List.map_append, List.nodup_append]
          refine ⟨hn, by simp, fun a ha b hb e => ?_⟩
          simp at hb
          subst e
          exact hx (hb ▸ ha)
        split at h
        · rename_i hp
          have := pre_len hp (by decide)
          simp only [List.length_cons, List.length_nil] at this
          exact rec_fine hl hf hg (by omega) (by omega) h2' (by omega) (by omega) hr' hn' h
        · split at h
          · rename_i hq
            have := (List.getElem?_eq_some_iff.mp hq).1
            cases h
            obtain ⟨k1, k2⟩ := wokK_of h2'
            refine ⟨?_, ?_, ?_⟩
            · simp only [wok, k1, Bool.and_true, decide_eq_true_eq]
              unfold strP
              rw [List.length_map]
              omega
            · simp only [PyData.depth]
              omega
            · have := wr_dict hn'
              omega
          · cases h
    · cases h
theorem strG_fine : ∀ {r : List Nat} {a : List Nat} {b : Nat}, strG r = some (a, b) → a.length < b := by
  intro r
  induction r using strG.induct with
  | case1 => intro a b h; cases h
  | case2 => intro a b h; simp only [strG] at h; cases h; simp
  | case3 => intro a b h; cases h
  | case4 c r hq ih =>
    intro a b h
    simp only [strG, if_pos hq, Option.map_eq_some_iff] at h
    obtain ⟨⟨a', b'⟩, h1, h2⟩ := h
    cases h2
    have := ih h1
    simp only [List.length_cons]
    omega
  | case5 c r hq => intro a b h; simp only [strG, if_neg hq] at h; cases h
  | case6 c r h1 h2 h3 ih =>
    intro a b h
    rw [strG] at h
    · simp only [Option.map_eq_some_iff] at h
      obtain ⟨⟨a', b'⟩, h1, h2⟩ := h
      cases h2
      have := ih h1
      simp only [List.length_cons]
      omega
    all_goals assumption
theorem esc_len : ∀ l : List Nat, (TL.joinL [] (l.map escL)).length ≤ 2 * l.length := fun l => by
  have := join_len (a := []) (l.map escL)
  have e : ((l.map escL).map List.length).sum ≤ 2 * l.length := by
    clear this
    induction l with
    | nil => simp
    | cons c r ih =>
      have : (escL c).length ≤ 2 := by unfold escL; split <;> simp
      simp only [List.map_cons, List.sum_cons, List.length_cons]
      omega
  simp at this
  simp at e
  omega
theorem part_fine : ∀ (n : Nat) {l : List Nat} (hl : l.length ≤ 300) (i : Nat) (d : PyData) (j : Nat), partN n l i = some (d, j) → Fine n (j - i) d := by
  intro n
  induction n with
  | zero => intro l hl i d j h; cases h
  | succ n ih =>
    intro l hl i d j h
    have g := part_goes _ _ _ _ _ h
    have le2 : ∀ {d : PyData} {k : Nat}, (wr d).length ≤ 2 → (wr d).length ≤ 700 * (i + (k + 1) - i) := fun h => by omega
    have flat : ∀ d, wok d = true → d.depth = 0 → (wr d).length ≤ 700 → Fine (n + 1) (j - i) d := fun d h1 h2 h3 => ⟨h1, by omega, by omega⟩
    unfold partN at h
    split at h
    · unfold strAt at h
      rw [Option.map_eq_some_iff] at h
      obtain ⟨⟨a, b⟩, h1, h2⟩ := h
      cases h2
      have := strG_fine h1
      have e := esc_len a
      simp only at g ⊢
      refine ⟨?_, ?_, ?_⟩
      · exact decide_eq_true (show (ofL a).length ≤ 1000 by rw [len_ofL]; omega)
      · simp [PyData.depth]
      · have e2 : (wr (.str (ofL a))).length = 1 + (TL.joinL [] (a.map escL)).length + 1 := by
          simp only [wr, List.length_append]
          rfl
        omega
    split at h
    · unfold lstAt at h
      split at h
      · cases h
        exact ⟨by decide, by simp [PyData.depth, PyData.depthAll], le2 (by decide +kernel)⟩
      · exact lst_fine hl (part_goes n l) (fun i d j h => ih hl i d j h) (by omega) (by omega) (by simp) (by simp) (by simp) h
    split at h
    · unfold recAt at h
      split at h
      · cases h
        exact ⟨by decide, by simp [PyData.depth, PyData.depthKv], by
          have := wr_dict (acc := []) (by simp)
          simp only [List.map_nil, List.sum_nil, List.length_nil] at this
          have e : strP [] = [] := rfl
          rw [e] at this
          omega⟩
      · exact rec_fine hl (part_goes n l) (fun i d j h => ih hl i d j h) (by omega) (by omega) (by simp) (by simp) (by simp) (fun p hp => by simp at hp) (by simp) h
    split at h
    · cases h
      exact flat _ rfl rfl (by decide)
    split at h
    · cases h
      exact flat _ rfl rfl (by decide)
    split at h
    · cases h
      exact flat _ rfl rfl (by decide)
    · obtain ⟨v, rfl, hv⟩ := num_fine hl (by omega) h
      refine flat _ ?_ rfl ?_
      · simp only [wok, decide_eq_true_eq]
        exact int_log hv
      · simp only [wr]
        have := int_len (by decide) hv
        omega
end K88
end
section
--@@ gend
set_option Elab.async false
set_option linter.all false
set_option maxRecDepth 100000
set_option maxHeartbeats 4000000
set_option synthInstance.maxHeartbeats 4000000
set_option synthInstance.maxSize 100000
namespace K88
open PySem PySem.Spec PyProof.Rows L2 Tg Dw
local macro_rules | `(tactic| walk_at "d") => `(tactic| simp (maxSteps := 4000000) only [DVar, DCon, DLock, DLockV, DCons, DNil, DOp, DOpN, DUn, DTup, DLst, DCB, DCBN, DMt, DMtN, isB, DB, DNot, DAnd, DOr, DAndV, DOrV, DNotV, DIf, DChain, DNext, DSeq, DIfS, DRet, DDrop, DSet, DSetN, GName, GNil, GCons, GTup, DAsgG, DPar, isL, isT, isS, isI, IList, ITup, IStr, IRng1, IRng2, DFor, DLc, DYes, RInt, RIntC, RStr, RCatS, eqC, REq, RNe, isNone, RIsN, RNotN, RInS, RIx, RSlS, ONone, OSome, DSl, DSlN, on1, on2, RLen, RIntOf, RIntS, RStrI, RAbs, RMin2, RMax2, RAll, RAny, NList, RTuple, RReprD, MStarts, MFind, MJoin, tyB, DIs, DIs3, DApp, DCall, DCallX, DRaise, startD, RAdd, RLe, RInX, NCat, RMulX, NSlL, DFzS, DAug, DCallP, startP, wipeD, IItems, DDGet, DDIn, NSortedD, NListD, MDict, DCBM, DParND, DParNN, DPar3N, DPar3, GPut, DPeek, DNe0, DPop, DLenO, DPar3M, DRepl, flD, inF, eqF, List.length_cons, List.length_nil, List.map_cons, List.map_nil, List.replicate_succ, List.replicate_zero, List.cons_append, List.nil_append, List.getElem?_cons_zero, List.getElem?_cons_succ, List.set_cons_zero, List.set_cons_succ, Nat.reduceAdd, Nat.reduceSub, Nat.zero_add, Bool.not_true, Bool.not_false, Bool.false_eq_true, if_true, if_false, reduceIte, reduceCtorEq, beq_self_eq_true, Bool.true_or, Bool.or_true, Bool.false_or, Bool.or_false, String.reduceBEq, Option.some.injEq, false_and, and_false, exists_const, true_and, and_true, PyData.str.injEq, exists_eq', exists_eq_left', Nat.reduceLeDiff, DV.l.injEq, DV.m.injEq, DV.pot.injEq, List.all_cons, List.all_nil, List.any_cons, List.any_nil, Bool.and_self, Bool.and_true, Bool.true_and])
theorem put_all {Pr : Str × PyData → Prop} {kvs : List (Str × PyData)} {x : Str} {d : PyData} (h : ∀ p ∈ kvs, Pr p) (hx : Pr (x, d)) : ∀ p ∈ putP kvs x d, Pr p := fun p hp => by
  unfold putP at hp
  split at hp
  · obtain ⟨q, hq, rfl⟩ := List.mem_map.mp hp
    by_cases e : q.1 = x
    · simp only [e, if_true]
      exact hx
    · simp only [e, if_false]
      exact h q hq
  · rcases List.mem_append.mp hp with hp | hp
    · exact h p hp
    · cases List.mem_singleton.mp hp
      exact hx
theorem put_len {kvs : List (Str × PyData)} {x : Str} {d : PyData} : (putP kvs x d).length ≤ kvs.length + 1 := by
  unfold putP
  split
  · rw [List.length_map]
    omega
  · simp
theorem merge_all {Pr : Str × PyData → Prop} : ∀ {more kvs : List (Str × PyData)}, (∀ p ∈ kvs, Pr p) → (∀ p ∈ more, Pr p) → (∀ p ∈ mergeP kvs more, Pr p) ∧ (mergeP kvs more).length ≤ kvs.length + more.length
  | [], kvs, h, _ => ⟨h, Nat.le_refl _⟩
  | q :: r, kvs, h, hm => by
    have := merge_all (more := r) (kvs := putP kvs q.1 q.2) (put_all h (hm q List.mem_cons_self)) fun p hp => hm p (List.mem_cons_of_mem _ hp)
    have hl := put_len (kvs := kvs) (x := q.1) (d := q.2)
    refine ⟨this.1, ?_⟩
    have h2 := this.2
    show (mergeP (putP kvs q.1 q.2) r).length ≤ _
    rw [List.length_cons]
    omega
theorem sum_le {α : Type} {g : α → Nat} {b : Nat} : ∀ {ys : List α}, (∀ y ∈ ys, g y ≤ b) → (ys.map g).sum ≤ ys.length * b
  | [], _ => by simp
  | y :: r, h => by
    have h1 := h y List.mem_cons_self
    have h2 := sum_le fun z hz => h z (List.mem_cons_of_mem _ hz)
    rw [List.map_cons, List.sum_cons, List.length_cons, Nat.add_mul]
    omega
def LA : Nat → Nat
  | 0 => 9
  | n + 1 => 38 + 3 * LA n
def BA : Nat → Nat
  | 0 => 1
  | n + 1 => 1 + 3 * BA n
def AnyOk (n : Nat) (d : PyData) : Prop := wok d = true ∧ d.depth ≤ n ∧ (wr d).length ≤ LA n ∧ (wr d).countP isBr ≤ BA n
theorem flat_ok {d : PyData} (h : d ∈ flats) : wok d = true ∧ d.depth ≤ 0 ∧ (wr d).length ≤ 9 ∧ (wr d).countP isBr ≤ 1 := by
  have e : flats.all (fun d => wok d && decide (d.depth ≤ 0) && decide ((wr d).length ≤ 9) && decide ((wr d).countP isBr ≤ 1)) = true := by decide +kernel
  have := List.all_eq_true.mp e d h
  simp only [Bool.and_eq_true, decide_eq_true_eq] at this
  exact ⟨this.1.1.1, this.1.1.2, this.1.2, this.2⟩
theorem fld_ok {k : Str} (h : PyData.str k ∈ flds) : k.length ≤ 8 ∧ (cs k).countP isBr = 0 := by
  have e : flds.all (fun d => match d with
    | .str k => decide (k.length ≤ 8) && decide ((cs k).countP isBr = 0)
    | _ => true) = true := by decide +kernel
  have := List.all_eq_true.mp e _ h
  simp only [Bool.and_eq_true, decide_eq_true_eq] at this
  exact this
theorem la_ge (n : Nat) : 9 ≤ LA n := by cases n <;> simp [LA] <;> omega
theorem ba_ge (n : Nat) : 1 ≤ BA n := by cases n <;> simp [BA] <;> omega
theorem any_ok : ∀ (n : Nat) {d : PyData}, AnyD n d → AnyOk n d := by
  intro n
  induction n with
  | zero =>
    intro d h
    exact flat_ok h
  | succ n ih =>
    intro d h
    have l1 := la_ge (n + 1)
    have b1 := ba_ge (n + 1)
    rcases h with h | ⟨xs, rfl, hl, hx⟩ | ⟨acc, rfl, hl, hx⟩
    · obtain ⟨h1, h2, h3, h4⟩ := flat_ok h
      exact ⟨h1, by omega, by omega, by omega⟩
    · obtain ⟨k1, k2⟩ := wokL_of (xs := xs) (n := n) fun x m => ⟨(ih (hx x m)).1, (ih (hx x m)).2.1⟩
      have s1 := sum_le (g := fun x => (wr x).length) (b := LA n) (ys := xs) fun x m => (ih (hx x m)).2.2.1
      have s2 := sum_le (g := fun x => (wr x).countP isBr) (b := BA n) (ys := xs) fun x m => (ih (hx x m)).2.2.2
      have m1 : xs.length * LA n ≤ 2 * LA n := Nat.mul_le_mul_right _ hl
      have m2 : xs.length * BA n ≤ 2 * BA n := Nat.mul_le_mul_right _ hl
      refine ⟨?_, ?_, ?_, ?_⟩
      · simp only [wok, k1, Bool.and_true, decide_eq_true_eq]
        omega
      · simp only [PyData.depth]
        omega
      · have := wr_list (xs := xs)
        simp only [LA]
        omega
      · have := join_cnt (a := [44, 32]) isBr (xs.map wr)
        rw [List.map_map, List.length_map] at this
        have e : (xs.map (List.countP isBr ∘ wr)).sum = (xs.map fun x => (wr x).countP isBr).sum := rfl
        have e2 : List.countP isBr [44, 32] = 0 := by decide
        have e3 : List.countP isBr [91] = 1 := by decide
        have e4 : List.countP isBr [93] = 0 := by decide
        simp only [wr, List.countP_append, wrL_map, e3, e4, BA]
        rw [e2] at this
        omega
    · obtain ⟨ha, hal⟩ := merge_all (Pr := fun p => .str p.1 ∈ flds ∧ AnyD n p.2) (kvs := []) (by simp) hx
      generalize hq : mergeP [] acc = kvs at *
      simp only [List.length_nil] at hal
      obtain ⟨k1, k2⟩ := wokK_of (xs := kvs) (n := n) fun p m => ⟨by have := (fld_ok (ha p m).1).1; omega, (ih (ha p m).2).1, (ih (ha p m).2).2.1⟩
      have pm := srt_perm (kvs.map (·.1))
      have sl : (srt (kvs.map (·.1))).length = kvs.length := by rw [pm.length_eq, List.length_map]
      have row : ∀ k ∈ srt (kvs.map (·.1)), (cs k ++ [58, 32] ++ lookW k (wrK (strP kvs))).length ≤ 10 + LA n ∧ (cs k ++ [58, 32] ++ lookW k (wrK (strP kvs))).countP isBr ≤ BA n := fun k hk => by
        obtain ⟨d, g1, g2⟩ := look_mem (pm.subset hk)
        obtain ⟨f1, f2⟩ := fld_ok (ha _ g2).1
        have a := ih (ha _ g2).2
        have e2 : List.countP isBr [58, 32] = 0 := by decide
        rw [look_wr g1, List.length_append, List.length_append, List.countP_append, List.countP_append, f2, e2, len_cs]
        have a1 := a.2.2.1
        have a2 := a.2.2.2
        simp only at a1 a2 f1
        simp only [List.length_cons, List.length_nil]
        omega
      generalize hf : (fun k => cs k ++ [58, 32] ++ lookW k (wrK (strP kvs))) = f
      have row1 : ∀ y ∈ (srt (kvs.map (·.1))).map f, y.length ≤ 10 + LA n := fun y hy => by
        obtain ⟨k, hk, rfl⟩ := List.mem_map.mp hy
        rw [← hf]
        exact (row k hk).1
      have row2 : ∀ y ∈ (srt (kvs.map (·.1))).map f, y.countP isBr ≤ BA n := fun y hy => by
        obtain ⟨k, hk, rfl⟩ := List.mem_map.mp hy
        rw [← hf]
        exact (row k hk).2
      have s1 := sum_le row1
      have s2 := sum_le row2
      rw [List.length_map, sl] at s1 s2
      have m1 : kvs.length * (10 + LA n) ≤ 3 * (10 + LA n) := Nat.mul_le_mul_right _ (by omega)
      have m2 : kvs.length * BA n ≤ 3 * BA n := Nat.mul_le_mul_right _ (by omega)
      have j1 := join_len (a := [44, 32]) ((srt (kvs.map (·.1))).map f)
      have j2 := join_cnt (a := [44, 32]) isBr ((srt (kvs.map (·.1))).map f)
      rw [List.length_map, sl] at j1 j2
      have e2 : List.countP isBr [44, 32] = 0 := by decide
      have e3 : List.countP isBr [123] = 1 := by decide
      have e4 : List.countP isBr [125] = 0 := by decide
      simp only [List.length_cons, List.length_nil] at j1
      rw [e2] at j2
      refine ⟨?_, ?_, ?_, ?_⟩
      · simp only [wok, k1, Bool.and_true, decide_eq_true_eq]
        unfold strP
        rw [List.length_map]
        omega
      · simp only [PyData.depth]
        omega
      · simp only [wr, keys_strP, hf, List.length_append, List.length_cons, List.length_nil, LA]
        omega
      · simp only [wr, keys_strP, hf, List.countP_append, e3, e4, BA]
        omega
/-! ### no sign is odd -/
def bad (c : Nat) : Bool := !decide (c < 1114112)
theorem flat_bad {d : PyData} (h : d ∈ flats) : (wr d).countP bad = 0 := by
  have e : flats.all (fun d => decide ((wr d).countP bad = 0)) = true := by decide +kernel
  exact of_decide_eq_true (List.all_eq_true.mp e d h)
theorem fld_bad {k : Str} (h : PyData.str k ∈ flds) : (cs k).countP bad = 0 := by
  have e : flds.all (fun d => match d with
    | .str k => decide ((cs k).countP bad = 0)
    | _ => true) = true := by decide +kernel
  exact of_decide_eq_true (List.all_eq_true.mp e _ h)
theorem sum_zero {α : Type} {g : α → Nat} : ∀ {ys : List α}, (∀ y ∈ ys, g y = 0) → (ys.map g).sum = 0
  | [], _ => rfl
  | y :: r, h => by rw [List.map_cons, List.sum_cons, h y List.mem_cons_self, sum_zero fun z hz => h z (List.mem_cons_of_mem _ hz)]
theorem any_bad : ∀ (n : Nat) {d : PyData}, AnyD n d → (wr d).countP bad = 0 := by
  intro n
  induction n with
  | zero =>
    intro d h
    exact flat_bad h
  | succ n ih =>
    intro d h
    have e2 : List.countP bad [44, 32] = 0 := by decide
    rcases h with h | ⟨xs, rfl, hl, hx⟩ | ⟨acc, rfl, hl, hx⟩
    · exact flat_bad h
    · have s2 := sum_zero (g := fun x => (wr x).countP bad) (ys := xs) fun x m => ih (hx x m)
      have := join_cnt (a := [44, 32]) bad (xs.map wr)
      rw [List.map_map, e2] at this
      have e : (xs.map (List.countP bad ∘ wr)).sum = (xs.map fun x => (wr x).countP bad).sum := rfl
      have e3 : List.countP bad [91] = 0 := by decide
      have e4 : List.countP bad [93] = 0 := by decide
      simp only [wr, List.countP_append, wrL_map, e3, e4]
      omega
    · obtain ⟨ha, hal⟩ := merge_all (Pr := fun p => .str p.1 ∈ flds ∧ AnyD n p.2) (kvs := []) (by simp) hx
      generalize hq : mergeP [] acc = kvs at *
      have pm := srt_perm (kvs.map (·.1))
      have row : ∀ k ∈ srt (kvs.map (·.1)), (cs k ++ [58, 32] ++ lookW k (wrK (strP kvs))).countP bad = 0 := fun k hk => by
        obtain ⟨d, g1, g2⟩ := look_mem (pm.subset hk)
        have f2 := fld_bad (ha _ g2).1
        have a := ih (ha _ g2).2
        have e2 : List.countP bad [58, 32] = 0 := by decide
        simp only at a f2
        rw [look_wr g1, List.countP_append, List.countP_append, f2, e2, a]
      generalize hf : (fun k => cs k ++ [58, 32] ++ lookW k (wrK (strP kvs))) = f
      have row2 : ∀ y ∈ (srt (kvs.map (·.1))).map f, y.countP bad = 0 := fun y hy => by
        obtain ⟨k, hk, rfl⟩ := List.mem_map.mp hy
        rw [← hf]
        exact row k hk
      have s2 := sum_zero row2
      have j2 := join_cnt (a := [44, 32]) bad ((srt (kvs.map (·.1))).map f)
      have e3 : List.countP bad [123] = 0 := by decide
      have e4 : List.countP bad [125] = 0 := by decide
      rw [e2] at j2
      simp only [wr, keys_strP, hf, List.countP_append, e3, e4]
      omega
theorem ok_of_bad {z : Str} (h : (cs z).countP bad = 0) : PyData.strOk z = true := by
  unfold PyData.strOk
  rw [← Array.all_toList, List.all_eq_true]
  intro c hc
  have := List.countP_eq_zero.mp h c hc
  simpa [bad] using this
theorem br0 (l : List Nat) : br l 0 = l.countP isBr := by
  unfold br
  rw [List.drop_zero, List.countP_eq_length_filter]
theorem cut_to {z : Str} {j : Nat} : cs (cutS z none (some (j : Int))) = (cs z).take j := by
  unfold cutS
  rw [sIx_nat, show HT.sIx z.length 0 none = 0 from rfl]
  show ((cs z).drop 0).take (min j z.length - 0) = _
  rw [List.drop_zero, Nat.sub_zero]
  by_cases h : j ≤ z.length
  · rw [Nat.min_eq_left h]
  · rw [Nat.min_eq_right (by omega), List.take_of_length_le, List.take_of_length_le] <;> rw [len_cs] <;> omega
theorem cut_from {z : Str} {j : Nat} : cs (cutS z (some (j : Int)) none) = (cs z).drop j := by
  unfold cutS
  rw [sIx_nat, show HT.sIx z.length z.length none = z.length from rfl]
  show ((cs z).drop (min j z.length)).take (z.length - min j z.length) = _
  by_cases h : j ≤ z.length
  · rw [Nat.min_eq_left h, List.take_of_length_le]
    rw [List.length_drop, len_cs]
    omega
  · rw [Nat.min_eq_right (by omega), List.drop_of_length_le (by rw [len_cs]; omega), List.drop_of_length_le (by rw [len_cs]; omega), List.take_nil]
theorem cs_app (a b : Str) : cs (a ++ b) = cs a ++ cs b := by
  show (a.cps ++ b.cps).toList = _
  rw [Array.toList_append]
theorem drop_cnt (l : List Nat) {i j : Nat} (h : i ≤ j) : (l.take i).countP isBr + (l.drop j).countP isBr ≤ l.countP isBr := by
  have e : l.countP isBr = (l.take i).countP isBr + (l.drop i).countP isBr := by rw [← List.countP_append, List.take_append_drop]
  have : (l.drop j).countP isBr ≤ (l.drop i).countP isBr := by
    rw [show l.drop j = (l.drop i).drop (j - i) by rw [List.drop_drop]; congr 1; omega]
    exact (List.drop_sublist _ _).countP_le
  omega
theorem drop_bad (l : List Nat) {i j : Nat} (h : l.countP bad = 0) : (l.take i).countP bad = 0 ∧ (l.drop j).countP bad = 0 :=
  ⟨Nat.le_zero.mp (h ▸ (List.take_sublist _ _).countP_le), Nat.le_zero.mp (h ▸ (List.drop_sublist _ _).countP_le)⟩
theorem bent_bad {z s : Str} {i j : Nat} (hz : (cs z).countP bad = 0) (hs : (cs s).countP bad = 0) : (cs (cutS z none (some (i : Int)) ++ s ++ cutS z (some (j : Int)) none)).countP bad = 0 := by
  obtain ⟨h1, h2⟩ := drop_bad (cs z) (i := i) (j := j) hz
  simp only [cs_app, List.countP_append, cut_to, cut_from, h1, h2, hs]
theorem bent_ok {z s : Str} {i j : Nat} (h : i ≤ j) (hs : s.length ≤ 2) (hb : (cs s).countP isBr ≤ 1) :
    (cutS z none (some (i : Int)) ++ s ++ cutS z (some (j : Int)) none).length ≤ z.length + 2 ∧ br (cs (cutS z none (some (i : Int)) ++ s ++ cutS z (some (j : Int)) none)) 0 ≤ br (cs z) 0 + 1 ∧
    (cutS z none (some (i : Int))).length ≤ z.length ∧ (cutS z none (some (i : Int)) ++ s).length + (cutS z (some (j : Int)) none).length ≤ z.length + 2 := by
  have hd := drop_cnt (cs z) h
  simp only [br0, ← len_cs, cs_app, List.length_append, List.countP_append, cut_to, cut_from, List.length_take, List.length_drop]
  rw [len_cs s]
  omega
def signs17 : List PyData := [.str "\"", .str "\\", .str "[", .str "]", .str "{", .str "}", .str " ", .str ",", .str ":", .str "-", .str "0", .str "7", .str "x", .str "y", .str "es", .str "no", .str "A"]
theorem sign_ok {d : PyData} (h : d ∈ signs17) : ∃ s, d = .str s ∧ (s.length ≤ 2 ∧ (cs s).countP isBr ≤ 1) ∧ (cs s).countP bad = 0 := by
  have e : signs17.all (fun d => match d with
    | .str k => decide (k.length ≤ 2) && decide ((cs k).countP isBr ≤ 1) && decide ((cs k).countP bad = 0)
    | _ => false) = true := by decide +kernel
  have := List.all_eq_true.mp e _ h
  cases d with
  | str s =>
    simp only [Bool.and_eq_true, decide_eq_true_eq] at this
    exact ⟨s, rfl, this⟩
  | _ => cases this
section
variable {P : Program} {w : World} {K : PySem.W.Frag} {mg : Str → Option Value} {base : Heap}
def FBent : DP := fun c ds Kk => ∃ z : Str, ds = [.str z] ∧ z.length ≤ 600 ∧ c < 900000 ∧ (cs z).countP bad = 0 ∧ ∀ z' : Str, z'.length ≤ z.length + 2 → br (cs z') 0 ≤ br (cs z) 0 + 1 → (cs z').countP bad = 0 → Kk (.str z') (c + 3)
theorem ok_bent (T : Tx P K mg) : FnOk P w K mg base CX0 3 T.a__law_bent_text T.fd__law_bent_text ["_law_pot_here", "_law_text"] (spP FBent) := by
  have G__law_take := okP_take (w := w) (base := base) T
  have G__law_of := okP_of (w := w) (base := base) T
  refine Dw.okP T.F__law_bent_text sc__law_bent_text (by decide) (fun c ds Kk h => ?_) (fun cdv A outer s H E p c ds Kk hr h => ⟨_, _, (pss_cons (ps_par (i := 2) (j := 3) (by rfl) sc__law_bent_text.nd rfl rfl (by decide) rfl rfl (pa_cons (pe_call G__law_take (hr.mono (by first | decide | omega)) (by rfl) T.m__law_take T.F__law_take.kp T.b__law_take .nil pass0 (pa_cons (pv 0) (pa_cons (pe_op dAddX (pe_callB dLen (by rfl) T.n_len PyProof.Rows.Boot.«len» (pa_cons (pv 1) pa_nil)) pe_int) pa_nil))) (pa_cons (pe_call G__law_take (hr.mono (by first | decide | omega)) (by rfl) T.m__law_take T.F__law_take.kp T.b__law_take .nil pass0 (pa_cons (pv 0) (pa_cons pe_int pa_nil))) pa_nil)) (by rfl))
      (pss_cons (ps_set (i := 4) sc__law_bent_text.nd rfl (Or.inl rfl) (pe_fz (pe_lst (pa_cons pe_str (pa_cons pe_str (pa_cons pe_str (pa_cons pe_str (pa_cons pe_str (pa_cons pe_str (pa_cons pe_str (pa_cons pe_str (pa_cons pe_str (pa_cons pe_str (pa_cons pe_str (pa_cons pe_str (pa_cons pe_str (pa_cons pe_str (pa_cons pe_str (pa_cons pe_str (pa_cons pe_str pa_nil))))))))))))))))))))
      (pss_cons (ps_set (i := 5) sc__law_bent_text.nd rfl (Or.inl rfl) (pe_call G__law_of (hr.mono (by first | decide | omega)) (by rfl) T.m__law_of T.F__law_of.kp T.b__law_of .nil pass0 (pa_cons (pv 0) (pa_cons (pv 4) pa_nil))))
      (pss_one (ps_ret (pe_op dAddX (pe_op dAddX (pe_slice dSlS (pv 1) po_none (po_some (pv 2))) (pe_ifExp (pt_cmpR dLt (pv 3) pe_int (nomark _)) (pv 5) pe_str)) (pe_slice dSlS (pv 1) (po_some (pe_op dAddX (pv 2) (pe_callTy dIntOf (by rfl) T.n_int PyProof.Rows.Boot.«int» (pa_cons (pe_cmpR dGt (pv 3) pe_int (nomark _)) pa_nil)))) po_none))))))), inferInstance, ?_⟩)
  · obtain ⟨z, rfl, _⟩ := h
    rfl
  obtain ⟨z, rfl, hz, hc, hbad, k⟩ := h
  simp (maxSteps := 4000000) only [DVar, DCon, DLock, DLockV, DCons, DNil, DOp, DOpN, DUn, DTup, DLst, DCB, DCBN, DMt, DMtN, isB, DB, DNot, DAnd, DOr, DAndV, DOrV, DNotV, DIf, DChain, DNext, DSeq, DIfS, DRet, DDrop, DSet, DSetN, GName, GNil, GCons, GTup, DAsgG, DPar, isL, isT, isS, isI, IList, ITup, IStr, IRng1, IRng2, DFor, DLc, DYes, RInt, RIntC, RStr, RCatS, eqC, REq, RNe, isNone, RIsN, RNotN, RInS, RIx, RSlS, ONone, OSome, DSl, DSlN, on1, on2, RLen, RIntOf, RIntS, RStrI, RAbs, RMin2, RMax2, RAll, RAny, NList, RTuple, RReprD, MStarts, MFind, MJoin, tyB, DIs, DIs3, DApp, DCall, DCallX, DRaise, startD, RAdd, RLe, RInX, NCat, RMulX, NSlL, DFzS, DAug, DCallP, startP, wipeD, IItems, DDGet, DDIn, NSortedD, NListD, MDict, DCBM, DParND, DParNN, DPar3N, DPar3, GPut, DPeek, DNe0, DPop, DLenO, DPar3M, DRepl, flD, inF, eqF, List.length_cons, List.length_nil, List.map_cons, List.map_nil, List.replicate_succ, List.replicate_zero, List.cons_append, List.nil_append, List.getElem?_cons_zero, List.getElem?_cons_succ, List.set_cons_zero, List.set_cons_succ, Nat.reduceAdd, Nat.reduceSub, Nat.zero_add, Bool.not_true, Bool.not_false, Bool.false_eq_true, if_true, if_false, reduceIte, reduceCtorEq, beq_self_eq_true, Bool.true_or, Bool.or_true, Bool.false_or, Bool.or_false, String.reduceBEq, Option.some.injEq, false_and, and_false, exists_const, true_and, and_true, PyData.str.injEq, exists_eq', exists_eq_left', Nat.reduceLeDiff, DV.l.injEq, DV.m.injEq, DV.pot.injEq, List.all_cons, List.all_nil, List.any_cons, List.any_nil, Bool.and_self, Bool.and_true, Bool.true_and]
  refine ⟨⟨_, _, rfl, rfl⟩, by omega, _, rfl, by omega, by omega, by omega, fun r hr1 => ⟨⟨_, _, rfl, rfl⟩, _, rfl, by omega, by decide, by decide, fun t ht => ⟨⟨_, _, rfl, rfl⟩, signs17, rfl, by omega, by decide, by decide, fun d hd => ?_⟩⟩⟩
  obtain ⟨sg, rfl, ⟨s1, s2⟩, s3⟩ := sign_ok hd
  simp only
  refine ⟨by omega, ?_⟩
  have he : ∃ e : Nat, ((r : Int) + if decide (0 < (t : Int)) = true then 1 else 0) = ((r + e : Nat) : Int) := by
    by_cases h : 0 < (t : Int)
    · rw [if_pos (decide_eq_true h)]
      exact ⟨1, rfl⟩
    · rw [if_neg (by simp only [decide_eq_true_eq]; exact h)]
      exact ⟨0, rfl⟩
  obtain ⟨e, he⟩ := he
  rw [he]
  have e3 : c + 1 + 1 + 1 = c + 3 := by omega
  rw [e3]
  by_cases h : (t : Int) < 2
  · rw [if_pos (decide_eq_true h)]
    obtain ⟨b1, b2, b3, b4⟩ := bent_ok (z := z) (s := sg) (i := r) (j := r + e) (by omega) s1 s2
    exact ⟨by omega, by omega, by omega, k _ b1 b2 (bent_bad hbad s3)⟩
  · rw [if_neg (by simp only [decide_eq_true_eq]; exact h)]
    obtain ⟨b1, b2, b3, b4⟩ := bent_ok (z := z) (s := Str.ofString "") (i := r) (j := r + e) (by omega) (by decide) (by decide +kernel)
    have l0 : (Str.ofString "").length = 0 := by decide
    exact ⟨by omega, by omega, by omega, k _ b1 b2 (bent_bad hbad (by decide +kernel))⟩
def texts25 : List PyData := [.str "", .str "-0", .str "00", .str "07", .str "-", .str "--", .str "[", .str "[]", .str "[ ]", .str "{}", .str "{x: -", .str "{x:-}", .str "{y: -, x: -}", .str "{x: -, x: -}", .str "[-,-]", .str "[-, ]", .str "yes ", .str " yes", .str "yesno", .str "\"", .str "\"\\", .str "\"\\a\"", .str "{X: -}", .str "{: 1}", .str "{abcdefghi: 1}"]
theorem text_ok {d : PyData} (h : d ∈ texts25) : ∃ s, d = .str s ∧ (s.length ≤ 300 ∧ br (cs s) 0 < 16) ∧ (cs s).countP bad = 0 := by
  have e : texts25.all (fun d => match d with
    | .str k => decide (k.length ≤ 300) && decide (br (cs k) 0 < 16) && decide ((cs k).countP bad = 0)
    | _ => false) = true := by decide +kernel
  have := List.all_eq_true.mp e _ h
  cases d with
  | str s =>
    simp only [Bool.and_eq_true, decide_eq_true_eq] at this
    exact ⟨s, rfl, this⟩
  | _ => cases this
def FDrawn : DP := fun c ds Kk => ds = [] ∧ c < 800000 ∧ ∀ (z : Str) (c' : Int), z.length ≤ 300 → br (cs z) 0 < 16 → PyData.strOk z = true → c' ≤ c + 60 → Kk (.str z) c'
theorem ok_drawn (T : Tx P K mg) : FnOk P w K mg base CX0 50 T.a__law_text_drawn T.fd__law_text_drawn ["_law_pot_here"] (spP FDrawn) := by
  have G__law_take := okP_take (w := w) (base := base) T
  have G__law_of := okP_of (w := w) (base := base) T
  have G__law_any := ok_any (w := w) (base := base) T 3
  have G__law_writ := ok_writ (w := w) (base := base) T 20
  have G__law_bent_text := ok_bent (w := w) (base := base) T
  refine Dw.okP T.F__law_text_drawn sc__law_text_drawn (by decide) (fun c ds Kk h => ?_) (fun cdv A outer s H E p c ds Kk hr h => ⟨_, _, (pss_cons (ps_set (i := 1) sc__law_text_drawn.nd rfl (Or.inl rfl) (pe_lst (pa_cons pe_str (pa_cons pe_str (pa_cons pe_str (pa_cons pe_str (pa_cons pe_str (pa_cons pe_str (pa_cons pe_str (pa_cons pe_str (pa_cons pe_str (pa_cons pe_str (pa_cons pe_str (pa_cons pe_str (pa_cons pe_str (pa_cons pe_str pa_nil))))))))))))))))
      (pss_cons (ps_set (i := 1) sc__law_text_drawn.nd rfl (Or.inl rfl) (pe_op dCat (pe_fz (pv 1)) (pe_fz (pe_lst (pa_cons pe_str (pa_cons pe_str (pa_cons pe_str (pa_cons pe_str (pa_cons pe_str (pa_cons pe_str (pa_cons pe_str (pa_cons pe_str (pa_cons pe_str (pa_cons pe_str pa_nil))))))))))))))
      (pss_cons (ps_expr (pe_bm PySem.F.plainAttrs_list PySem.F.slot_list_append PySem.F.type_list_append mt_append (pv 1) (pa_cons pe_str pa_nil)))
      (pss_cons (ps_set (i := 2) sc__law_text_drawn.nd rfl (Or.inl rfl) (pe_call G__law_take (hr.mono (by first | decide | omega)) (by rfl) T.m__law_take T.F__law_take.kp T.b__law_take .nil pass0 (pa_cons (pv 0) (pa_cons pe_int pa_nil))))
      (pss_cons (ps_if (pt_cmpR dEq (pv 2) pe_int (nomark _)) (pss_one (ps_ret (pe_call G__law_of (hr.mono (by first | decide | omega)) (by rfl) T.m__law_of T.F__law_of.kp T.b__law_of .nil pass0 (pa_cons (pv 0) (pa_cons (pe_fz (pv 1)) pa_nil))))) pss_nil)
      (pss_cons (ps_set (i := 3) sc__law_text_drawn.nd rfl (Or.inl rfl) (pe_call G__law_writ (hr.mono (by first | decide | omega)) (by rfl) T.m__law_writ T.F__law_writ.kp T.b__law_writ .nil pass0 (pa_cons (pe_call G__law_any (hr.mono (by first | decide | omega)) (by rfl) T.m__law_any T.F__law_any.kp T.b__law_any .nil pass0 (pa_cons (pv 0) (pa_cons pe_int pa_nil))) pa_nil)))
      (pss_cons (ps_for PassesOwn.never rfl (pi_range1 (by rfl) T.n_range (pa_cons (pe_callB (dMin2 rfl) (by rfl) T.n_min PyProof.Rows.Boot.«min» (pa_cons pe_int (pa_cons (pe_op dMod (pv 2) pe_int) pa_nil))) pa_nil)) (pg_name (i := 4) sc__law_text_drawn.nd rfl (Or.inl rfl)) (pss_one (ps_set (i := 3) sc__law_text_drawn.nd rfl (Or.inl rfl) (pe_call G__law_bent_text (hr.mono (by first | decide | omega)) (by rfl) T.m__law_bent_text T.F__law_bent_text.kp T.b__law_bent_text .nil pass0 (pa_cons (pv 0) (pa_cons (pv 3) pa_nil))))))
      (pss_one (ps_ret (pv 3)))))))))), inferInstance, ?_⟩)
  · obtain ⟨rfl, _⟩ := h
    rfl
  obtain ⟨rfl, hc, k⟩ := h
  simp (maxSteps := 4000000) only [DVar, DCon, DLock, DLockV, DCons, DNil, DOp, DOpN, DUn, DTup, DLst, DCB, DCBN, DMt, DMtN, isB, DB, DNot, DAnd, DOr, DAndV, DOrV, DNotV, DIf, DChain, DNext, DSeq, DIfS, DRet, DDrop, DSet, DSetN, GName, GNil, GCons, GTup, DAsgG, DPar, isL, isT, isS, isI, IList, ITup, IStr, IRng1, IRng2, DFor, DLc, DYes, RInt, RIntC, RStr, RCatS, eqC, REq, RNe, isNone, RIsN, RNotN, RInS, RIx, RSlS, ONone, OSome, DSl, DSlN, on1, on2, RLen, RIntOf, RIntS, RStrI, RAbs, RMin2, RMax2, RAll, RAny, NList, RTuple, RReprD, MStarts, MFind, MJoin, tyB, DIs, DIs3, DApp, DCall, DCallX, DRaise, startD, RAdd, RLe, RInX, NCat, RMulX, NSlL, DFzS, DAug, DCallP, startP, wipeD, IItems, DDGet, DDIn, NSortedD, NListD, MDict, DCBM, DParND, DParNN, DPar3N, DPar3, GPut, DPeek, DNe0, DPop, DLenO, DPar3M, DRepl, flD, inF, eqF, List.length_cons, List.length_nil, List.map_cons, List.map_nil, List.replicate_succ, List.replicate_zero, List.cons_append, List.nil_append, List.getElem?_cons_zero, List.getElem?_cons_succ, List.set_cons_zero, List.set_cons_succ, Nat.reduceAdd, Nat.reduceSub, Nat.zero_add, Bool.not_true, Bool.not_false, Bool.false_eq_true, if_true, if_false, reduceIte, reduceCtorEq, beq_self_eq_true, Bool.true_or, Bool.or_true, Bool.false_or, Bool.or_false, String.reduceBEq, Option.some.injEq, false_and, and_false, exists_const, true_and, and_true, PyData.str.injEq, exists_eq', exists_eq_left', Nat.reduceLeDiff, DV.l.injEq, DV.m.injEq, DV.pot.injEq, List.all_cons, List.all_nil, List.any_cons, List.any_nil, Bool.and_self, Bool.and_true, Bool.true_and]
  refine ⟨by decide, ⟨_, _, rfl, rfl⟩, 6, rfl, by omega, by decide, by decide, fun r hr6 => ?_⟩
  simp only
  by_cases h0 : (r : Int) = 0
  · rw [if_pos (decide_eq_true h0)]
    refine ⟨⟨_, _, rfl, rfl⟩, texts25, rfl, by omega, by decide, by decide, fun d hd => ?_⟩
    obtain ⟨z, rfl, ⟨h1, h2⟩, h3⟩ := text_ok hd
    exact k z _ h1 h2 (ok_of_bad h3) (by omega)
  · rw [if_neg (by simp only [decide_eq_true_eq]; exact h0)]
    refine ⟨⟨_, _, rfl, rfl⟩, 2, by decide, rfl, by simp only [bAny]; omega, fun d c1 hd hc1 => ?_⟩
    simp only [bAny] at hc1
    have a5 := any_bad 2 hd
    obtain ⟨a1, a2, a3, a4⟩ := any_ok 2 hd
    simp only [LA, BA] at a3 a4
    refine ⟨d, rfl, a1, by omega, by omega, by decide, ?_⟩
    obtain ⟨q, hq, hq2⟩ : ∃ q : Nat, (if (r : Int) % 4 < 2 then (r : Int) % 4 else 2) = (q : Int) ∧ q ≤ 2 := by
      by_cases h : (r : Int) % 4 < 2
      · exact ⟨r % 4, by rw [if_pos h]; omega, by omega⟩
      · exact ⟨2, if_neg h, Nat.le_refl _⟩
    rw [hq]
    refine ⟨⟨by omega, by omega⟩, fun t ρ => ∃ (z : Str) (c2 : Int) (x4 : Option DV), ρ = [some (.pot p c2), some (.l texts25), some (.d (.int r)), some (.d (.str z)), x4] ∧ z.length ≤ 233 + 2 * t ∧ br (cs z) 0 ≤ 13 + t ∧ c2 ≤ c + 40 + 3 * t ∧ (cs z).countP bad = 0, ⟨ofL (wr d), c1, none, rfl, by rw [len_ofL]; omega, by rw [cs_ofL, br0]; omega, by omega, a5⟩, ?_, ?_⟩
    · rintro t x ρ hx ⟨z, c2, x4, rfl, z1, z2, z3, z4⟩
      have ht : t < q := by
        have := (List.getElem?_eq_some_iff.mp hx).1
        simpa [rngD] using this
      simp (maxSteps := 4000000) only [DVar, DCon, DLock, DLockV, DCons, DNil, DOp, DOpN, DUn, DTup, DLst, DCB, DCBN, DMt, DMtN, isB, DB, DNot, DAnd, DOr, DAndV, DOrV, DNotV, DIf, DChain, DNext, DSeq, DIfS, DRet, DDrop, DSet, DSetN, GName, GNil, GCons, GTup, DAsgG, DPar, isL, isT, isS, isI, IList, ITup, IStr, IRng1, IRng2, DFor, DLc, DYes, RInt, RIntC, RStr, RCatS, eqC, REq, RNe, isNone, RIsN, RNotN, RInS, RIx, RSlS, ONone, OSome, DSl, DSlN, on1, on2, RLen, RIntOf, RIntS, RStrI, RAbs, RMin2, RMax2, RAll, RAny, NList, RTuple, RReprD, MStarts, MFind, MJoin, tyB, DIs, DIs3, DApp, DCall, DCallX, DRaise, startD, RAdd, RLe, RInX, NCat, RMulX, NSlL, DFzS, DAug, DCallP, startP, wipeD, IItems, DDGet, DDIn, NSortedD, NListD, MDict, DCBM, DParND, DParNN, DPar3N, DPar3, GPut, DPeek, DNe0, DPop, DLenO, DPar3M, DRepl, flD, inF, eqF, List.length_cons, List.length_nil, List.map_cons, List.map_nil, List.replicate_succ, List.replicate_zero, List.cons_append, List.nil_append, List.getElem?_cons_zero, List.getElem?_cons_succ, List.set_cons_zero, List.set_cons_succ, Nat.reduceAdd, Nat.reduceSub, Nat.zero_add, Bool.not_true, Bool.not_false, Bool.false_eq_true, if_true, if_false, reduceIte, reduceCtorEq, beq_self_eq_true, Bool.true_or, Bool.or_true, Bool.false_or, Bool.or_false, String.reduceBEq, Option.some.injEq, false_and, and_false, exists_const, true_and, and_true, PyData.str.injEq, exists_eq', exists_eq_left', Nat.reduceLeDiff, DV.l.injEq, DV.m.injEq, DV.pot.injEq, List.all_cons, List.all_nil, List.any_cons, List.any_nil, Bool.and_self, Bool.and_true, Bool.true_and]
      exact ⟨⟨_, _, rfl, rfl⟩, z, rfl, by omega, by omega, z4, fun z' g1 g2 g3 => ⟨z', _, _, rfl, by omega, by omega, by omega, g3⟩⟩
    · rintro ρ ⟨z, c2, x4, rfl, z1, z2, z3, z4⟩
      have e : (rngD 0 (q : Int).toNat).length = q := by simp [rngD]
      rw [e] at z1 z2 z3
      exact ⟨_, rfl, k z _ (by omega) (by omega) (ok_of_bad z4) (by omega)⟩
end
end K88
end
section
set_option Elab.async false
set_option linter.all false
set_option maxRecDepth 100000
set_option maxHeartbeats 8000000
set_option pp.maxSteps 900
namespace K88
open PySem PySem.Spec PyProof.Rows L2 Tg LamX Dw
local macro_rules | `(tactic| walk_at "c") => `(tactic| first | assumption | trivial | omega | (constructor <;> omega) | decide | exact len_ok (Nat.le_of_ble_eq_true rfl))
local macro_rules | `(tactic| walk_at "sq") => `(tactic| first | exact SqL.of (by assumption) | exact SqL.of upd_same | assumption | exact SqT.of (by assumption) | exact SqT.of upd_same | exact .inl (SqL.of (by assumption)) | exact .inr (SqT.of (by assumption)))
local macro_rules | `(tactic| walk_at "r1") => `(tactic| first
  | refine ⟨_, rfl, ?_⟩
  | refine ⟨_, _, rfl, rfl, ?_⟩
  | refine .inl ⟨_, rfl, ?_⟩
  | refine .inr ⟨_, rfl, ?_⟩
  | (apply Exists.intro; apply Exists.intro; apply Exists.intro; apply Exists.intro; refine And.intro rfl (And.intro rfl (And.intro ?sq ?_)); (case sq => walk_at "sq"); refine And.intro rfl ?_)
  | (apply Exists.intro; apply Exists.intro; apply Exists.intro; apply Exists.intro; refine And.intro rfl (And.intro rfl (And.intro ?hp ?_)); (case hp => first | assumption | exact upd_same); refine And.intro rfl ?_)
  | (refine And.intro ?c ?_; (case c => walk_at "c")))
local macro_rules | `(tactic| walk_at "r") => `(tactic| repeat walk_at "r1")
/-- further facts of the classes -/
structure Fx {P : Program} {K : PySem.W.Frag} {mg : Str → Option Value} (T : Tx P K mg) : Prop where
  xmN : PySem.W.exmOne K (.ref T.C_NoDocument) (.ref T.C_TaglessError) = some true
  xmB : PySem.W.exmOne K (.ref T.C_BadText) (.ref T.C_TaglessError) = some true
  nn : PySem.W.kitOne K (.ref T.C_NoDocument) (.ref T.C_NoDocument) = some true
  nb : PySem.W.kitOne K (.ref T.C_NoDocument) (.ref T.C_BadText) = some false
  bn : PySem.W.kitOne K (.ref T.C_BadText) (.ref T.C_NoDocument) = some false
  bb : PySem.W.kitOne K (.ref T.C_BadText) (.ref T.C_BadText) = some true
  nv : PySem.W.kitOne K (.ref T.C_NoDocument) (.type "ValueError") = some true
  bv : PySem.W.kitOne K (.ref T.C_BadText) (.type "ValueError") = some true
theorem iT {P Q : Prop} (h : P) : if true = true then P else Q := h
theorem iF {P Q : Prop} (h : Q) : if false = true then P else Q := h
section
variable {X : Cx}
abbrev nC : List Str := ["_law_call", "_law_word", "_law_caught_here", "_law_told", "error", "_law_is_due", "_law_is_other"]
theorem caught_text (T : Tx X.prog X.K X.mg) (F : Fx T) {cdg : Value} {q : Str} :
    GivesTo2 X nC "_law_caught" (defScope s__law_caught) T.a__law_caught cdg (defBody s__law_caught) "_law_call" q "text" (TCaught T.C_BadText "text") := by
  intro f c' s H Q tl act hc h
  have hTry : ∀ {p0 p1 p2 p3 : Pos} (W : WX) (pn : List (Addr × Obj)) (xe : Value → Shared → Prop), Takes ((cxOf C8.CX0 X.prog X.w X.K X.mg X.base nC "_law_caught" (defScope s__law_caught) T.a__law_caught cdg X.A X.stack s H C8.E0).nox.tr pn xe) W →
      PassesOwn (model X.prog X.w) (cxOf C8.CX0 X.prog X.w X.K X.mg X.base nC "_law_caught" (defScope s__law_caught) T.a__law_caught cdg X.A X.stack s H C8.E0).nox.A (cxOf C8.CX0 X.prog X.w X.K X.mg X.base nC "_law_caught" (defScope s__law_caught) T.a__law_caught cdg X.A X.stack s H C8.E0).nox.env xe →
      PSs ((cxOf C8.CX0 X.prog X.w X.K X.mg X.base nC "_law_caught" (defScope s__law_caught) T.a__law_caught cdg X.A X.stack s H C8.E0).nox.tr pn xe) [.Assign [.Name "_law_told" p0] (.Call (.Name "_law_call" p1) [] [] p2) p3]
        ((fun (W : WX) (D : Ends) (σ : L2.St) (H : Hp) => ∃ (Ech : XK) (Qb : VK), (∀ cls d H', Ech cls d H' → W cls d σ H') ∧ σ[0]? = some (some (.ref f)) ∧ H c' = some (CodeO c' q) ∧ tl Ech H Qb ∧ ∀ v H', Qb v H' → D.nx (σ.set 3 (some v)) H') W) := by
    intro p0 p1 p2 p3 W pn xe tk _
    refine ⟨fun pins s' σ H' D I h' => ?_⟩
    obtain ⟨Ech, Qb, hW, h1, h2, h3, h4⟩ := h'
    have hp := act W pn xe Ech p1 p2 tk
    have hs := pss_one (ps_set (pos := p3) (pos' := p0) (i := 3) sc__law_caught.nd rfl (Or.inl rfl) (pe_mo hp))
    exact hs.run pins s' σ H' D I ⟨_, ⟨hW, h1, h2, h3⟩, h4⟩
  refine ⟨_, (pss_cons (ps_asg (pe_tup (pa_cons pe_non (pa_cons pe_non pa_nil))) (pg_tup rfl (pgs_cons (pg_name (i := 2) sc__law_caught.nd rfl (Or.inl rfl)) (pgs_cons (pg_name (i := 3) sc__law_caught.nd rfl (Or.inl rfl)) pgs_nil))))
      (pss_cons (ps_try_keep (i := 4) rfl rfl sc__law_caught.nd rfl rfl ⟨rfl, by decide, .inl T.m_TaglessError⟩ rfl hTry (fun a oe cls d pn hz hf => (pss_one (ps_set (i := 2) sc__law_caught.nd rfl (Or.inl rfl) (pv 4)))))
      (pss_cons (ps_if (pt_cmpR op_isN (pv 2) pe_non (nomark _)) (pss_one (ps_ret (pe_tup (pa_cons pe_str (pa_cons (pv 3) pa_nil))))) pss_nil)
      (pss_cons (ps_set (i := 5) sc__law_caught.nd rfl (Or.inl rfl) (pe_ifExp (pt_cmpR op_eq (pv 1) pe_str (nomark _)) (pe_callB call_isErr (by rfl) T.n_isinstance PyProof.Rows.Boot.«isinstance» (pa_cons (pv 2) (pa_cons (pe_glob (v := .ref T.C_BadText) (by rfl) T.m_BadText rfl) pa_nil))) (pe_callB call_isErr (by rfl) T.n_isinstance PyProof.Rows.Boot.«isinstance» (pa_cons (pv 2) (pa_cons (pe_glob (v := .ref T.C_NoDocument) (by rfl) T.m_NoDocument rfl) pa_nil)))))
      (pss_cons (ps_set (i := 6) sc__law_caught.nd rfl (Or.inl rfl) (pe_ifExp (pt_cmpR op_eq (pv 1) pe_str (nomark _)) (pe_callB call_isErr (by rfl) T.n_isinstance PyProof.Rows.Boot.«isinstance» (pa_cons (pv 2) (pa_cons (pe_glob (v := .ref T.C_NoDocument) (by rfl) T.m_NoDocument rfl) pa_nil))) (pe_callB call_isErr (by rfl) T.n_isinstance PyProof.Rows.Boot.«isinstance» (pa_cons (pv 2) (pa_cons (pe_glob (v := .ref T.C_BadText) (by rfl) T.m_BadText rfl) pa_nil)))))
      (pss_one (ps_ret (pe_ifExp (PW.pt (pw_and (pt_truth (pv 5) (by intro _; rfl)) (pw_and (pt_not (pt_truth (pv 6) (by intro _; rfl))) (pw_and1 (pt_val (pe_callB call_isErr (by rfl) T.n_isinstance PyProof.Rows.Boot.«isinstance» (pa_cons (pv 2) (pa_cons (pe_bltn (v := .ty "ValueError") (by rfl) T.n_ValueError PyProof.Rows.Boot.«ValueError» rfl) pa_nil)))))))) (pe_tup (pa_cons (pv 1) (pa_cons (pe_value (pv 2)) pa_nil))) (pe_tup (pa_cons pe_str (pa_cons pe_non pa_nil))))))))))), ?_⟩
  refine ⟨len_ok (by show 2 ≤ 1000; decide), fun t nt => ⟨t, _, rfl, SqT.of upd_same, rfl, _, _, rfl, _, _, rfl, rfl, ?_⟩⟩
  have st : Same H (upd H t (.tup [.non, .non])) := same_new nt
  have hc1 := st _ _ hc
  change tSeq _ _ _ _ (upd H t (.tup [.non, .non]))
  generalize upd H t (.tup [.non, .non]) = H1 at st hc1 ⊢
  obtain ⟨Qb, Eb, htl, hq, he⟩ := h H1 st
  refine ⟨Eb, Qb, fun cls d H' e hlen => ?_, rfl, hc1, htl, fun v H' qv => ⟨_, rfl, rfl, true, rfl, iT ⟨_, rfl, len_ok (by show 2 ≤ 1000; decide), fun p np => hq v H' qv p np⟩⟩⟩
  obtain ⟨dd, v, rfl, rfl, hdd, fin⟩ := he cls d H' e
  refine ⟨true, F.xmB, fun _ => ⟨T.C_BadText, dd, rfl, rfl, fun a na => ?_⟩, fun z => nomatch z⟩
  have s1 : Same H' (upd H' a (exq a T.C_BadText dd)) := same_new na
  have er : Err (upd H' a (exq a T.C_BadText dd)) a T.C_BadText v := ⟨dd, upd_same, s1 _ _ hdd⟩
  refine ⟨_, rfl, ?_⟩
  refine ⟨_, rfl, rfl, false, rfl, iF ?_⟩
  generalize upd H' a (exq a T.C_BadText dd) = H2 at s1 er ⊢
  refine ⟨_, rfl, rfl, true, by decide, iT ?_⟩
  refine ⟨_, rfl, a, _, v, _, _, true, rfl, er, T.e_BadText.xc, ClsV.own _, F.bb, ?_⟩
  refine ⟨_, rfl, rfl, true, by decide, iT ?_⟩
  refine ⟨_, rfl, a, _, v, _, _, false, rfl, er, T.e_BadText.xc, ClsV.own _, F.bn, ?_⟩
  refine ⟨_, rfl, true, rfl, iT ?_⟩
  refine ⟨_, rfl, false, rfl, ?_⟩
  refine iT ?_
  refine ⟨_, rfl, a, _, v, _, _, true, rfl, er, T.e_BadText.xc, .ty _, F.bv, _, rfl, ?_⟩
  refine iT ?_
  refine ⟨_, rfl, _, rfl, a, _, v, rfl, er, T.e_BadText.xc, T.e_BadText.no, len_ok (by show 2 ≤ 1000; decide), fun p np => ?_⟩
  exact fin _ p (s1.trans (same_new np)) upd_same
theorem caught_none (T : Tx X.prog X.K X.mg) (F : Fx T) {cdg : Value} {q : Str} :
    GivesTo2 X nC "_law_caught" (defScope s__law_caught) T.a__law_caught cdg (defBody s__law_caught) "_law_call" q "none" (TCaught T.C_NoDocument "none") := by
  intro f c' s H Q tl act hc h
  have hTry : ∀ {p0 p1 p2 p3 : Pos} (W : WX) (pn : List (Addr × Obj)) (xe : Value → Shared → Prop), Takes ((cxOf C8.CX0 X.prog X.w X.K X.mg X.base nC "_law_caught" (defScope s__law_caught) T.a__law_caught cdg X.A X.stack s H C8.E0).nox.tr pn xe) W →
      PassesOwn (model X.prog X.w) (cxOf C8.CX0 X.prog X.w X.K X.mg X.base nC "_law_caught" (defScope s__law_caught) T.a__law_caught cdg X.A X.stack s H C8.E0).nox.A (cxOf C8.CX0 X.prog X.w X.K X.mg X.base nC "_law_caught" (defScope s__law_caught) T.a__law_caught cdg X.A X.stack s H C8.E0).nox.env xe →
      PSs ((cxOf C8.CX0 X.prog X.w X.K X.mg X.base nC "_law_caught" (defScope s__law_caught) T.a__law_caught cdg X.A X.stack s H C8.E0).nox.tr pn xe) [.Assign [.Name "_law_told" p0] (.Call (.Name "_law_call" p1) [] [] p2) p3]
        ((fun (W : WX) (D : Ends) (σ : L2.St) (H : Hp) => ∃ (Ech : XK) (Qb : VK), (∀ cls d H', Ech cls d H' → W cls d σ H') ∧ σ[0]? = some (some (.ref f)) ∧ H c' = some (CodeO c' q) ∧ tl Ech H Qb ∧ ∀ v H', Qb v H' → D.nx (σ.set 3 (some v)) H') W) := by
    intro p0 p1 p2 p3 W pn xe tk _
    refine ⟨fun pins s' σ H' D I h' => ?_⟩
    obtain ⟨Ech, Qb, hW, h1, h2, h3, h4⟩ := h'
    have hp := act W pn xe Ech p1 p2 tk
    have hs := pss_one (ps_set (pos := p3) (pos' := p0) (i := 3) sc__law_caught.nd rfl (Or.inl rfl) (pe_mo hp))
    exact hs.run pins s' σ H' D I ⟨_, ⟨hW, h1, h2, h3⟩, h4⟩
  refine ⟨_, (pss_cons (ps_asg (pe_tup (pa_cons pe_non (pa_cons pe_non pa_nil))) (pg_tup rfl (pgs_cons (pg_name (i := 2) sc__law_caught.nd rfl (Or.inl rfl)) (pgs_cons (pg_name (i := 3) sc__law_caught.nd rfl (Or.inl rfl)) pgs_nil))))
      (pss_cons (ps_try_keep (i := 4) rfl rfl sc__law_caught.nd rfl rfl ⟨rfl, by decide, .inl T.m_TaglessError⟩ rfl hTry (fun a oe cls d pn hz hf => (pss_one (ps_set (i := 2) sc__law_caught.nd rfl (Or.inl rfl) (pv 4)))))
      (pss_cons (ps_if (pt_cmpR op_isN (pv 2) pe_non (nomark _)) (pss_one (ps_ret (pe_tup (pa_cons pe_str (pa_cons (pv 3) pa_nil))))) pss_nil)
      (pss_cons (ps_set (i := 5) sc__law_caught.nd rfl (Or.inl rfl) (pe_ifExp (pt_cmpR op_eq (pv 1) pe_str (nomark _)) (pe_callB call_isErr (by rfl) T.n_isinstance PyProof.Rows.Boot.«isinstance» (pa_cons (pv 2) (pa_cons (pe_glob (v := .ref T.C_BadText) (by rfl) T.m_BadText rfl) pa_nil))) (pe_callB call_isErr (by rfl) T.n_isinstance PyProof.Rows.Boot.«isinstance» (pa_cons (pv 2) (pa_cons (pe_glob (v := .ref T.C_NoDocument) (by rfl) T.m_NoDocument rfl) pa_nil)))))
      (pss_cons (ps_set (i := 6) sc__law_caught.nd rfl (Or.inl rfl) (pe_ifExp (pt_cmpR op_eq (pv 1) pe_str (nomark _)) (pe_callB call_isErr (by rfl) T.n_isinstance PyProof.Rows.Boot.«isinstance» (pa_cons (pv 2) (pa_cons (pe_glob (v := .ref T.C_NoDocument) (by rfl) T.m_NoDocument rfl) pa_nil))) (pe_callB call_isErr (by rfl) T.n_isinstance PyProof.Rows.Boot.«isinstance» (pa_cons (pv 2) (pa_cons (pe_glob (v := .ref T.C_BadText) (by rfl) T.m_BadText rfl) pa_nil)))))
      (pss_one (ps_ret (pe_ifExp (PW.pt (pw_and (pt_truth (pv 5) (by intro _; rfl)) (pw_and (pt_not (pt_truth (pv 6) (by intro _; rfl))) (pw_and1 (pt_val (pe_callB call_isErr (by rfl) T.n_isinstance PyProof.Rows.Boot.«isinstance» (pa_cons (pv 2) (pa_cons (pe_bltn (v := .ty "ValueError") (by rfl) T.n_ValueError PyProof.Rows.Boot.«ValueError» rfl) pa_nil)))))))) (pe_tup (pa_cons (pv 1) (pa_cons (pe_value (pv 2)) pa_nil))) (pe_tup (pa_cons pe_str (pa_cons pe_non pa_nil))))))))))), ?_⟩
  refine ⟨len_ok (by show 2 ≤ 1000; decide), fun t nt => ⟨t, _, rfl, SqT.of upd_same, rfl, _, _, rfl, _, _, rfl, rfl, ?_⟩⟩
  have st : Same H (upd H t (.tup [.non, .non])) := same_new nt
  have hc1 := st _ _ hc
  change tSeq _ _ _ _ (upd H t (.tup [.non, .non]))
  generalize upd H t (.tup [.non, .non]) = H1 at st hc1 ⊢
  obtain ⟨Qb, Eb, htl, hq, he⟩ := h H1 st
  refine ⟨Eb, Qb, fun cls d H' e hlen => ?_, rfl, hc1, htl, fun v H' qv => ⟨_, rfl, rfl, true, rfl, iT ⟨_, rfl, len_ok (by show 2 ≤ 1000; decide), fun p np => hq v H' qv p np⟩⟩⟩
  obtain ⟨dd, v, rfl, rfl, hdd, fin⟩ := he cls d H' e
  refine ⟨true, F.xmN, fun _ => ⟨T.C_NoDocument, dd, rfl, rfl, fun a na => ?_⟩, fun z => nomatch z⟩
  have s1 : Same H' (upd H' a (exq a T.C_NoDocument dd)) := same_new na
  have er : Err (upd H' a (exq a T.C_NoDocument dd)) a T.C_NoDocument v := ⟨dd, upd_same, s1 _ _ hdd⟩
  refine ⟨_, rfl, ?_⟩
  refine ⟨_, rfl, rfl, false, rfl, iF ?_⟩
  generalize upd H' a (exq a T.C_NoDocument dd) = H2 at s1 er ⊢
  refine ⟨_, rfl, rfl, false, by decide, iF ?_⟩
  refine ⟨_, rfl, a, _, v, _, _, true, rfl, er, T.e_NoDocument.xc, ClsV.own _, F.nn, ?_⟩
  refine ⟨_, rfl, rfl, false, by decide, iF ?_⟩
  refine ⟨_, rfl, a, _, v, _, _, false, rfl, er, T.e_NoDocument.xc, ClsV.own _, F.nb, ?_⟩
  refine ⟨_, rfl, true, rfl, iT ?_⟩
  refine ⟨_, rfl, false, rfl, ?_⟩
  refine iT ?_
  refine ⟨_, rfl, a, _, v, _, _, true, rfl, er, T.e_NoDocument.xc, .ty _, F.nv, _, rfl, ?_⟩
  refine iT ?_
  refine ⟨_, rfl, _, rfl, a, _, v, rfl, er, T.e_NoDocument.xc, T.e_NoDocument.no, len_ok (by show 2 ≤ 1000; decide), fun p np => ?_⟩
  exact fin _ p (s1.trans (same_new np)) upd_same
end
end K88
end
section
--@@ gend
set_option Elab.async false
set_option linter.all false
set_option maxRecDepth 100000
set_option maxHeartbeats 8000000
set_option synthInstance.maxHeartbeats 8000000
set_option synthInstance.maxSize 100000
namespace K88
open PySem PySem.Spec PyProof.Rows L2 Tg LamX Dw
local macro_rules | `(tactic| walk_at "d") => `(tactic| simp (maxSteps := 4000000) only [DVar, DCon, DLock, DLockV, DCons, DNil, DOp, DOpN, DUn, DTup, DLst, DCB, DCBN, DMt, DMtN, isB, DB, DNot, DAnd, DOr, DAndV, DOrV, DNotV, DIf, DChain, DNext, DSeq, DIfS, DRet, DDrop, DSet, DSetN, GName, GNil, GCons, GTup, DAsgG, DPar, isL, isT, isS, isI, IList, ITup, IStr, IRng1, IRng2, DFor, DLc, DYes, RInt, RIntC, RStr, RCatS, eqC, REq, RNe, isNone, RIsN, RNotN, RInS, RIx, RSlS, ONone, OSome, DSl, DSlN, on1, on2, RLen, RIntOf, RIntS, RStrI, RAbs, RMin2, RMax2, RAll, RAny, NList, RTuple, RReprD, MStarts, MFind, MJoin, tyB, DIs, DIs3, DApp, DCall, DCallX, DRaise, startD, RAdd, RLe, RInX, NCat, RMulX, NSlL, DFzS, DAug, DCallP, startP, wipeD, IItems, DDGet, DDIn, NSortedD, NListD, MDict, DCBM, DParND, DParNN, DPar3N, DPar3, GPut, DPeek, DNe0, DPop, DLenO, DPar3M, DRepl, DDisp1, DNone1, DLam, kD, flD, inF, eqF, List.length_cons, List.length_nil, List.map_cons, List.map_nil, List.replicate_succ, List.replicate_zero, List.cons_append, List.nil_append, List.getElem?_cons_zero, List.getElem?_cons_succ, List.set_cons_zero, List.set_cons_succ, Nat.reduceAdd, Nat.reduceSub, Nat.zero_add, Bool.not_true, Bool.not_false, Bool.false_eq_true, if_true, if_false, reduceIte, reduceCtorEq, beq_self_eq_true, Bool.true_or, Bool.or_true, Bool.false_or, Bool.or_false, String.reduceBEq, Option.some.injEq, false_and, and_false, exists_const, true_and, and_true, PyData.str.injEq, exists_eq', exists_eq_left', Nat.reduceLeDiff, DV.l.injEq, DV.m.injEq, DV.pot.injEq, List.all_cons, List.all_nil, List.any_cons, List.any_nil, Bool.and_self, Bool.and_true, Bool.true_and])
def tabL (P1 : Addr) : List (Addr × Str) := [(P1, ("_law_right" : Str) ++ ".<locals>." ++ "<lambda>")]
theorem tab_one1 {P1 : Addr} : ∀ p ∈ tabL P1, p.1 = P1 → p.2 = ("_law_right" : Str) ++ ".<locals>." ++ "<lambda>" := by
  intro p hp e
  simp only [tabL, List.mem_cons, List.not_mem_nil, or_false] at hp
  subst hp
  rfl
abbrev nR : List Str := ["_law_pot_here", "_law_text", "_law_told", "_law_due", "_law_odd", "_law_some", "_law_none"]
def spR (P1 : Addr) : Sp := fun vs H Q _ => ∃ (p : Addr) (c : Int), vs = [.ref p] ∧ PotAt H p c ∧ c < 700000 ∧ Tabs (tabL P1) H ∧
  ∀ (H' : Hp) (c' : Int), c' ≤ c + 70 → (∀ b o, b ≠ p → (∀ ps, o ≠ .tbl ps) → H b = some o → H' b = some o) → PotAt H' p c' → Tabs (tabL P1) H' → Q (.bl true) H'
def odds10 : List PyData := [.none, .int 3, .bool true, .tuple [], .list [], .dict [], .tuple [.str "-"], .list [.str "-"], .dict [(.str "x", .int 1)], .int (-1)]
theorem odd_ok {d : PyData} (h : d ∈ odds10) : (∀ z, d ≠ .str z) ∧ (PyData.tuple [.str "text", d]).showable = true ∧ (PyData.tuple [.str "text", d]).shown.length ≤ 16777216 ∧ (PyData.tuple [.str "text", d]).depth ≤ 5 := by
  have e : odds10.all (fun d => (match d with
    | .str _ => false
    | _ => true) && (PyData.tuple [.str "text", d]).showable && decide ((PyData.tuple [.str "text", d]).shown.length ≤ 1000) && decide ((PyData.tuple [.str "text", d]).depth ≤ 5)) = true := by decide +kernel
  have := List.all_eq_true.mp e d h
  simp only [Bool.and_eq_true, decide_eq_true_eq] at this
  refine ⟨fun z q => ?_, this.1.1.2, Nat.le_trans this.1.2 (by decide), this.2⟩
  have h1 := this.1.1.1
  rw [q] at h1
  cases h1
def nones10 : List PyData := [.tuple [], .tuple [.int 1], .dict [(.str "X", .int 1)], .dict [(.str "", .int 1)], .dict [(.int 1, .int 2)], .list [.tuple []], .dict [(.str "x", .tuple [])], .dict [(.str "abcdefghi", .int 1)], .dict [(.none, .int 1)], .list [.list [.dict [(.str "a b", .int 1)]]]]
theorem none_ok {d : PyData} (h : d ∈ nones10) : (fit d = true ∧ d.depth < 20 ∧ isDoc d = false) ∧ (PyData.tuple [.str "none", d]).showable = true ∧ (PyData.tuple [.str "none", d]).shown.length ≤ 16777216 ∧ (PyData.tuple [.str "none", d]).depth ≤ 5 := by
  have e : nones10.all (fun d => fit d && decide (d.depth < 20) && (!isDoc d) && (PyData.tuple [.str "none", d]).showable && decide ((PyData.tuple [.str "none", d]).shown.length ≤ 1000) && decide ((PyData.tuple [.str "none", d]).depth ≤ 5)) = true := by decide +kernel
  have := List.all_eq_true.mp e d h
  simp only [Bool.and_eq_true, decide_eq_true_eq, Bool.not_eq_true'] at this
  exact ⟨⟨this.1.1.1.1.1, this.1.1.1.1.2, this.1.1.1.2⟩, this.1.1.2, Nat.le_trans this.1.2 (by decide), this.2⟩
theorem read_odd {C : Addr} {n : Nat} {d : PyData} {Kk : PyData → Prop} {Ex : Addr → PyData → Prop} (h : ∀ z, d ≠ .str z) (r : Ex C d) : FRead C n [d] Kk Ex := ⟨d, rfl, fun z e => absurd e (h z), by
  cases d with
  | str z => exact absurd rfl (h z)
  | _ => exact r⟩
theorem read_str {C : Addr} {n : Nat} {z : Str} {Kk : PyData → Prop} {Ex : Addr → PyData → Prop} (hz : z.length ≤ 600) (hb : br (cs z) 0 < n) (r1 : ∀ e, docN n z = some e → Kk e) (r2 : docN n z = none → Ex C (.str z)) : FRead C n [.str z] Kk Ex := ⟨.str z, rfl, fun z' e => by cases e; exact ⟨hz, hb⟩, by
  simp only
  cases q : docN n z with
  | some e => exact r1 e q
  | none => exact r2 q⟩
section
variable {P : Program} {w : World} {K : PySem.W.Frag} {mg : Str → Option Value} {base : Heap}
theorem ok_right (T : Tx P K mg) (F : Fx T) {P1 c1 : Addr} (TB : TabB base mg c1 P1) (FC : FunC K "_law_right" "_law_right" s__law_right T.a__law_right T.fd__law_right c1) :
    FnG P w K mg base CX0 70 T.a__law_right T.fd__law_right ["_law_pot_here"] (spR P1) := by
  have G__law_of := okP_of (w := w) (base := base) T
  have G__law_text_drawn := ok_drawn (w := w) (base := base) T
  have G__law_part := ok_lpart (w := w) (base := base) T 16
  have G__law_writ := ok_writ (w := w) (base := base) T 20
  have G_read_document := ok_read (w := w) (base := base) T 16
  have G_show_document := ok_show (w := w) (base := base) T 20
  obtain ⟨och, odh, kVh, doch, pmh, anh, cdvh, cth, oslh, efd, lkh, hch⟩ := T.F__law_caught.ex
  have bh := T.b__law_caught
  rw [efd] at lkh bh
  refine funGC FC sc__law_right (fun vs H Q E h => ?_) (fun A fr s H vs Q E hgd hr h => ?_)
  · obtain ⟨p, c, rfl, _⟩ := h
    rfl
  obtain ⟨p, c, rfl, hp, hc, tb, k⟩ := h
  obtain ⟨U, hU, hU2⟩ := room_units hr
  refine ⟨_, (pss_cons (ps_set (i := 1) sc__law_right.nd rfl (Or.inr rfl) (pe_call G__law_text_drawn (hr.mono (by first | decide | omega)) (by rfl) T.m__law_text_drawn T.F__law_text_drawn.kp T.b__law_text_drawn .nil pass0 (pa_cons (pv 0) pa_nil)))
      (pss_cons (ps_par (i := 2) (j := 3) (by rfl) sc__law_right.nd rfl rfl (by decide) rfl rfl (pa_cons (pe_lamcall2 (T := tabL P1) (TT := TCaught T.C_BadText "text") (k := 60) (by rfl) T.m__law_caught T.F__law_caught.kp lkh hch bh sc__law_caught rfl (Or.inl rfl) (caught_text (X := (cxOf CX0 P w K mg base nR "_law_right" (defScope s__law_right) T.a__law_right (.ref c1) A fr s H E).nox) T F) TB rfl (.head _) (tab_one1) (hr.mono (by decide)) (lamS_by (sc := defScope s__law_right) (by decide +kernel)) rfl (fun _ _ _ _ _ => rfl) (fun A outer s H E f c' hr => pe_call G_read_document (hr.mono (by decide)) (by rfl) T.m_read_document T.F_read_document.kp T.b_read_document .nil (passes_call (takes_of rfl rfl rfl rfl) fun _ _ _ _ h => h) (pa_cons (pv 1) pa_nil))) (pa_cons (pe_call G__law_part (hr.mono (by first | decide | omega)) (by rfl) T.m__law_part T.F__law_part.kp T.b__law_part .nil pass0 (pa_cons (pv 1) (pa_cons pe_int pa_nil))) pa_nil)) (by rfl))
      (pss_cons (ps_if (PW.pt (pw_or (pt_cmpR dIsN (pv 3) pe_non (nomark _)) (pw_or1 (pt_cmpR dNe (pe_ix dIx (pv 3) pe_int (fun _ _ => rfl)) (pe_callB dLen (by rfl) T.n_len PyProof.Rows.Boot.«len» (pa_cons (pv 1) pa_nil)) (nomark _))))) (pss_one (ps_if (pt_cmpR (dNeT hr.units) (pv 2) (pe_tup (pa_cons pe_str (pa_cons (pv 1) pa_nil))) (nomark _)) (pss_one (ps_ret pe_bl)) pss_nil)) (pss_one (ps_if (PW.pt (pw_or (pt_cmpR dNe (pe_ix dIx (pv 2) pe_int (fun _ _ => rfl)) pe_str (nomark _)) (pw_or1 (pt_cmpR dNe (pe_call G__law_writ (hr.mono (by first | decide | omega)) (by rfl) T.m__law_writ T.F__law_writ.kp T.b__law_writ .nil pass0 (pa_cons (pe_ix dIx (pv 2) pe_int (fun _ _ => rfl)) pa_nil)) (pe_call G__law_writ (hr.mono (by first | decide | omega)) (by rfl) T.m__law_writ T.F__law_writ.kp T.b__law_writ .nil pass0 (pa_cons (pe_ix dIx (pv 3) pe_int (fun _ _ => rfl)) pa_nil)) (nomark _))))) (pss_one (ps_ret pe_bl)) pss_nil)))
      (pss_cons (ps_set (i := 4) sc__law_right.nd rfl (Or.inr rfl) (pe_call G__law_of (hr.mono (by first | decide | omega)) (by rfl) T.m__law_of T.F__law_of.kp T.b__law_of .nil pass0 (pa_cons (pv 0) (pa_cons (pe_fz (pe_lst (pa_cons pe_non (pa_cons pe_int (pa_cons pe_bl (pa_cons (pe_tup pa_nil) (pa_cons (pe_fz (pe_lst pa_nil)) (pa_cons (pe_fz pe_dnewK) (pa_cons (pe_tup (pa_cons pe_str pa_nil)) (pa_cons (pe_fz (pe_lst (pa_cons pe_str pa_nil))) (pa_cons (pe_fz (pe_disp (pps_cons pe_str pe_int pps_nil) (by rfl) (by rfl) (fun z => by cases z) (by decide))) (pa_cons (pe_un dNeg pe_int) pa_nil)))))))))))) pa_nil))))
      (pss_cons (ps_if (pt_cmpR dNe (pe_callB (dRepr hgd hU) (by rfl) T.n_repr PyProof.Rows.Boot.«repr» (pa_cons (pe_lamcall2 (T := tabL P1) (TT := TCaught T.C_BadText "text") (k := 60) (by rfl) T.m__law_caught T.F__law_caught.kp lkh hch bh sc__law_caught rfl (Or.inl rfl) (caught_text (X := (cxOf CX0 P w K mg base nR "_law_right" (defScope s__law_right) T.a__law_right (.ref c1) A fr s H E).nox) T F) TB rfl (.head _) (tab_one1) (hr.mono (by decide)) (lamS_by (sc := defScope s__law_right) (by decide +kernel)) rfl (fun _ _ _ _ _ => rfl) (fun A outer s H E f c' hr => pe_call G_read_document (hr.mono (by decide)) (by rfl) T.m_read_document T.F_read_document.kp T.b_read_document .nil (passes_call (takes_of rfl rfl rfl rfl) fun _ _ _ _ h => h) (pa_cons (pv 4) pa_nil))) pa_nil)) (pe_callB (dRepr hgd hU) (by rfl) T.n_repr PyProof.Rows.Boot.«repr» (pa_cons (pe_tup (pa_cons pe_str (pa_cons (pv 4) pa_nil))) pa_nil)) (nomark _)) (pss_one (ps_ret pe_bl)) pss_nil)
      (pss_cons (ps_set (i := 5) sc__law_right.nd rfl (Or.inl rfl) (pe_fz (pe_lst (pa_cons (pe_tup pa_nil) (pa_cons (pe_tup (pa_cons pe_int pa_nil)) (pa_cons (pe_fz (pe_disp (pps_cons pe_str pe_int pps_nil) (by rfl) (by rfl) (fun z => by cases z) (by decide))) (pa_cons (pe_fz (pe_disp (pps_cons pe_str pe_int pps_nil) (by rfl) (by rfl) (fun z => by cases z) (by decide))) (pa_cons (pe_fz (pe_disp (pps_cons pe_int pe_int pps_nil) (by rfl) (by rfl) (fun z => by cases z) (by decide))) (pa_cons (pe_fz (pe_lst (pa_cons (pe_tup pa_nil) pa_nil))) (pa_cons (pe_fz (pe_disp (pps_cons pe_str (pe_tup pa_nil) pps_nil) (by rfl) (by rfl) (fun z => by cases z) (by decide))) (pa_cons (pe_fz (pe_disp (pps_cons pe_str pe_int pps_nil) (by rfl) (by rfl) (fun z => by cases z) (by decide))) (pa_cons (pe_none1 (pps_cons pe_non pe_int pps_nil) (by rfl) (by rfl) (fun z => by cases z) (by decide)) pa_nil))))))))))))
      (pss_cons (ps_set (i := 6) sc__law_right.nd rfl (Or.inr rfl) (pe_call G__law_of (hr.mono (by first | decide | omega)) (by rfl) T.m__law_of T.F__law_of.kp T.b__law_of .nil pass0 (pa_cons (pv 0) (pa_cons (pe_fz (pe_op dCat (pv 5) (pe_fz (pe_lst (pa_cons (pe_fz (pe_lst (pa_cons (pe_fz (pe_lst (pa_cons (pe_fz (pe_disp (pps_cons pe_str pe_int pps_nil) (by rfl) (by rfl) (fun z => by cases z) (by decide))) pa_nil))) pa_nil))) pa_nil))))) pa_nil))))
      (pss_one (ps_ret (pe_cmpR dEq (pe_callB (dRepr hgd hU) (by rfl) T.n_repr PyProof.Rows.Boot.«repr» (pa_cons (pe_lamcall2 (T := tabL P1) (TT := TCaught T.C_NoDocument "none") (k := 60) (by rfl) T.m__law_caught T.F__law_caught.kp lkh hch bh sc__law_caught rfl (Or.inl rfl) (caught_none (X := (cxOf CX0 P w K mg base nR "_law_right" (defScope s__law_right) T.a__law_right (.ref c1) A fr s H E).nox) T F) TB rfl (.head _) (tab_one1) (hr.mono (by decide)) (lamS_by (sc := defScope s__law_right) (by decide +kernel)) rfl (fun _ _ _ _ _ => rfl) (fun A outer s H E f c' hr => pe_call G_show_document (hr.mono (by decide)) (by rfl) T.m_show_document T.F_show_document.kp T.b_show_document .nil (passes_call (takes_of rfl rfl rfl rfl) fun _ _ _ _ h => h) (pa_cons (pv 6) pa_nil))) pa_nil)) (pe_callB (dRepr hgd hU) (by rfl) T.n_repr PyProof.Rows.Boot.«repr» (pa_cons (pe_tup (pa_cons pe_str (pa_cons (pv 6) pa_nil))) pa_nil)) (nomark _))))))))))), ?_⟩
  refine okR (H0 := H) (p := p) (Ts := tabL P1) (N := nR) (c := c) (Kk := fun d c' => d = .bool true ∧ c' ≤ c + 70) inferInstance (by decide) hp tb ?_ (fun d c' w' H' hk hx hp' ht' r => ?_)
  · generalize hU : DSeq (DSet 4 _) _ = UU
    have tail : ∀ (c2 : Int) (x1 x2 x3 : Option DV), c2 ≤ c + 60 → UU { nx := fun ρ => False, rt := fun d ρ => ∃ c', ρ[0]? = some (some (.pot p c')) ∧ d = .bool true ∧ c' ≤ c + 70 } [some (.pot p c2), x1, x2, x3, none, none, none] := by
      intro c2 x1 x2 x3 hc2
      rw [← hU]
      simp (maxSteps := 4000000) only [DVar, DCon, DLock, DLockV, DCons, DNil, DOp, DOpN, DUn, DTup, DLst, DCB, DCBN, DMt, DMtN, isB, DB, DNot, DAnd, DOr, DAndV, DOrV, DNotV, DIf, DChain, DNext, DSeq, DIfS, DRet, DDrop, DSet, DSetN, GName, GNil, GCons, GTup, DAsgG, DPar, isL, isT, isS, isI, IList, ITup, IStr, IRng1, IRng2, DFor, DLc, DYes, RInt, RIntC, RStr, RCatS, eqC, REq, RNe, isNone, RIsN, RNotN, RInS, RIx, RSlS, ONone, OSome, DSl, DSlN, on1, on2, RLen, RIntOf, RIntS, RStrI, RAbs, RMin2, RMax2, RAll, RAny, NList, RTuple, RReprD, MStarts, MFind, MJoin, tyB, DIs, DIs3, DApp, DCall, DCallX, DRaise, startD, RAdd, RLe, RInX, NCat, RMulX, NSlL, DFzS, DAug, DCallP, startP, wipeD, IItems, DDGet, DDIn, NSortedD, NListD, MDict, DCBM, DParND, DParNN, DPar3N, DPar3, GPut, DPeek, DNe0, DPop, DLenO, DPar3M, DRepl, DDisp1, DNone1, DLam, kD, flD, inF, eqF, List.length_cons, List.length_nil, List.map_cons, List.map_nil, List.replicate_succ, List.replicate_zero, List.cons_append, List.nil_append, List.getElem?_cons_zero, List.getElem?_cons_succ, List.set_cons_zero, List.set_cons_succ, Nat.reduceAdd, Nat.reduceSub, Nat.zero_add, Bool.not_true, Bool.not_false, Bool.false_eq_true, if_true, if_false, reduceIte, reduceCtorEq, beq_self_eq_true, Bool.true_or, Bool.or_true, Bool.false_or, Bool.or_false, String.reduceBEq, Option.some.injEq, false_and, and_false, exists_const, true_and, and_true, PyData.str.injEq, exists_eq', exists_eq_left', Nat.reduceLeDiff, DV.l.injEq, DV.m.injEq, DV.pot.injEq, List.all_cons, List.all_nil, List.any_cons, List.any_nil, Bool.and_self, Bool.and_true, Bool.true_and]
      refine ⟨⟨_, _, rfl, rfl⟩, odds10, rfl, by omega, by decide, by decide, fun d hd => ?_⟩
      obtain ⟨o1, o2, o3, o4⟩ := odd_ok hd
      refine read_odd o1 ⟨rfl, o2, o3, by omega, o2, o3, by omega, ?_⟩
      rw [if_neg (by simp)]
      refine ⟨⟨_, _, rfl, rfl⟩, nones10, rfl, by omega, by decide, by decide, fun d hd => ?_⟩
      obtain ⟨⟨f1, f2, f3⟩, n2, n3, n4⟩ := none_ok hd
      refine ⟨d, rfl, f1, f2, f3, rfl, n2, n3, by omega, n2, n3, by omega, ?_, by omega⟩
      rw [decide_eq_true rfl]
    simp (maxSteps := 4000000) only [DVar, DCon, DLock, DLockV, DCons, DNil, DOp, DOpN, DUn, DTup, DLst, DCB, DCBN, DMt, DMtN, isB, DB, DNot, DAnd, DOr, DAndV, DOrV, DNotV, DIf, DChain, DNext, DSeq, DIfS, DRet, DDrop, DSet, DSetN, GName, GNil, GCons, GTup, DAsgG, DPar, isL, isT, isS, isI, IList, ITup, IStr, IRng1, IRng2, DFor, DLc, DYes, RInt, RIntC, RStr, RCatS, eqC, REq, RNe, isNone, RIsN, RNotN, RInS, RIx, RSlS, ONone, OSome, DSl, DSlN, on1, on2, RLen, RIntOf, RIntS, RStrI, RAbs, RMin2, RMax2, RAll, RAny, NList, RTuple, RReprD, MStarts, MFind, MJoin, tyB, DIs, DIs3, DApp, DCall, DCallX, DRaise, startD, RAdd, RLe, RInX, NCat, RMulX, NSlL, DFzS, DAug, DCallP, startP, wipeD, IItems, DDGet, DDIn, NSortedD, NListD, MDict, DCBM, DParND, DParNN, DPar3N, DPar3, GPut, DPeek, DNe0, DPop, DLenO, DPar3M, DRepl, DDisp1, DNone1, DLam, kD, flD, inF, eqF, List.length_cons, List.length_nil, List.map_cons, List.map_nil, List.replicate_succ, List.replicate_zero, List.cons_append, List.nil_append, List.getElem?_cons_zero, List.getElem?_cons_succ, List.set_cons_zero, List.set_cons_succ, Nat.reduceAdd, Nat.reduceSub, Nat.zero_add, Bool.not_true, Bool.not_false, Bool.false_eq_true, if_true, if_false, reduceIte, reduceCtorEq, beq_self_eq_true, Bool.true_or, Bool.or_true, Bool.false_or, Bool.or_false, String.reduceBEq, Option.some.injEq, false_and, and_false, exists_const, true_and, and_true, PyData.str.injEq, exists_eq', exists_eq_left', Nat.reduceLeDiff, DV.l.injEq, DV.m.injEq, DV.pot.injEq, List.all_cons, List.all_nil, List.any_cons, List.any_nil, Bool.and_self, Bool.and_true, Bool.true_and]
    refine ⟨⟨_, _, rfl, rfl⟩, rfl, by omega, fun z c1 z1 z2 z3 hc1 => ?_⟩
    have tl : ∀ (x1 x2 x3 : Option DV), _ := fun x1 x2 x3 => tail c1 x1 x2 x3 hc1
    have part : ∀ (KK : PyData → Prop), KK (optP (partN 16 (cs z) 0)) → FPart 16 [.str z, .int 0] KK := fun KK h => ⟨z, 0, rfl, by omega, Nat.zero_le _, z2, h⟩
    refine read_str (by omega) z2 (fun e q => part _ ?_) (fun q => ⟨rfl, part _ ?_⟩)
    · unfold docN at q
      cases hq : partN 16 (cs z) 0 with
      | none => rw [hq] at q; cases q
      | some pr =>
        obtain ⟨d, j⟩ := pr
        rw [hq] at q
        simp only at q
        by_cases hj : j = z.length
        · rw [if_pos hj] at q
          cases q
          obtain ⟨w1, w2, w3⟩ := part_fine 16 (l := cs z) (by rw [len_cs]; exact z1) _ _ _ hq
          simp only [optP, Bool.false_eq_true, if_false]
          refine ⟨.int j, rfl, by omega, ?_⟩
          simp only
          rw [if_neg (by simp [hj])]
          refine ⟨_, rfl, ?_⟩
          simp only
          rw [if_neg (by simp)]
          have hw : (wr e).length ≤ 1000000 := by omega
          refine ⟨_, rfl, e, rfl, w1, by omega, hw, ?_⟩
          refine ⟨_, rfl, e, rfl, w1, by omega, hw, ?_⟩
          simp only
          rw [if_neg (by simp)]
          exact tl _ _ _
        · rw [if_neg hj] at q
          cases q
    · unfold docN at q
      have ne : ∀ (KK : PyData → Prop), KK (.bool false) → RNeT (.tuple [.str (Str.ofString "text"), .str z]) (.tuple [.str (Str.ofString "text"), .str z]) KK := fun KK h => ⟨_, _, _, _, rfl, rfl, ⟨by decide +kernel, z3, by decide +kernel, z3⟩, by rw [eqv_self]; exact h⟩
      cases hq : partN 16 (cs z) 0 with
      | none =>
        simp only [optP, if_true]
        refine ne _ ?_
        simp only
        rw [if_neg (by decide)]
        exact tl _ _ _
      | some pr =>
        obtain ⟨d, j⟩ := pr
        rw [hq] at q
        simp only at q
        by_cases hj : j = z.length
        · rw [if_pos hj] at q
          cases q
        · simp only [optP, Bool.false_eq_true, if_false]
          refine ⟨.int j, rfl, by omega, ?_⟩
          simp only
          rw [if_pos (by simp; omega)]
          refine ne _ ?_
          simp only
          rw [if_neg (by decide)]
          exact tl _ _ _
  · obtain ⟨rfl, hle⟩ := hk
    cases rp_bl r
    exact k H' c' hle hx hp' ht'
end
end K88
end
section
set_option Elab.async false
set_option linter.all false
set_option maxRecDepth 100000
set_option maxHeartbeats 8000000
set_option pp.maxSteps 1200
namespace K88
open PySem PySem.Spec PyProof.Rows L2 Tg LamX Dw
local macro_rules | `(tactic| walk_at "c") => `(tactic| first | assumption | trivial | omega | (constructor <;> omega) | decide | exact len_ok (Nat.le_of_ble_eq_true rfl))
local macro_rules | `(tactic| walk_at "sq") => `(tactic| first | exact SqL.of (by assumption) | exact SqL.of upd_same | assumption | exact SqT.of (by assumption) | exact SqT.of upd_same | exact .inl (SqL.of (by assumption)) | exact .inr (SqT.of (by assumption)))
local macro_rules | `(tactic| walk_at "r1") => `(tactic| first
  | refine ⟨_, rfl, ?_⟩
  | refine ⟨_, _, rfl, rfl, ?_⟩
  | refine .inl ⟨_, rfl, ?_⟩
  | refine .inr ⟨_, rfl, ?_⟩
  | (apply Exists.intro; apply Exists.intro; apply Exists.intro; apply Exists.intro; refine And.intro rfl (And.intro rfl (And.intro ?sq ?_)); (case sq => walk_at "sq"); refine And.intro rfl ?_)
  | (apply Exists.intro; apply Exists.intro; apply Exists.intro; apply Exists.intro; refine And.intro rfl (And.intro rfl (And.intro ?hp ?_)); (case hp => first | assumption | exact upd_same); refine And.intro rfl ?_)
  | (refine And.intro ?c ?_; (case c => walk_at "c")))
local macro_rules | `(tactic| walk_at "r") => `(tactic| repeat walk_at "r1")
def spLaw (K : PySem.W.Frag) (P1 : Addr) : Sp := fun vs H Q _ => ∃ (a : Addr) (ns : List Int), vs = [.ref a] ∧ SqL K H a (ns.map V.int) ∧ ns.length ≤ 63 ∧ Tabs (tabL P1) H ∧ ∀ H', Q (.bl true) H'
def cnt (m : Nat) : Int := if (if (m : Int) < 3 then (m : Int) else 3) > 1 then (if (m : Int) < 3 then (m : Int) else 3) else 1
theorem cnt_ok (m : Nat) : 1 ≤ cnt m ∧ cnt m ≤ 3 := by
  unfold cnt
  by_cases h : (m : Int) < 3
  · rw [if_pos h]
    by_cases h2 : (m : Int) > 1
    · rw [if_pos h2]
      omega
    · rw [if_neg h2]
      omega
  · rw [if_neg h]
    decide
theorem cnt_lo (m : Nat) : -(2 ^ 62) ≤ cnt m := by
  have := cnt_ok m
  omega
theorem cnt_hi (m : Nat) : cnt m < 2 ^ 62 := by
  have := cnt_ok m
  omega
theorem trues : ∀ {xs : List V}, (∀ (i : Nat) v, xs[i]? = some v → v = .bl true) → xs = (List.replicate xs.length true).map V.bl
  | [], _ => rfl
  | x :: xs, h => by
    have h1 := h 0 x rfl
    have h2 := trues (xs := xs) fun i v z => h (i + 1) v (by simpa using z)
    subst h1
    rw [List.length_cons, List.replicate_succ, List.map_cons, ← h2]
theorem all_rep : ∀ n : Nat, (List.replicate n true).all id = true
  | 0 => rfl
  | n + 1 => by
    show (id true && (List.replicate n true).all id) = true
    rw [all_rep n]
    rfl
theorem sq_ext {K : PySem.W.Frag} {l : Addr} {H H' : Hp} {xs : List V} (b : ExtN H H') (h : SqL K H l xs) : SqL K H' l xs := by
  rcases h with (h | ⟨o, h⟩) | h
  · exact .inl (.inl (b _ _ h (fun _ z => nomatch z)))
  · exact .inl (.inr ⟨o, b _ _ h (fun _ z => nomatch z)⟩)
  · exact .inr h
theorem pot_ne {H : Hp} {p q : Addr} {c : Int} (h : PotAt H p c) (n : H q = none) : q ≠ p := by
  rintro rfl
  obtain ⟨x, y, z, e, r⟩ := h.ex
  rw [n] at e
  cases e
theorem pot_put {H : Hp} {p q : Addr} {c : Int} {o : HO} (h : PotAt H p c) (n : q ≠ p) : PotAt (upd H q o) p c := by
  obtain ⟨x, y, z, e, r⟩ := h.ex
  exact ⟨x, y, z, by rw [upd_ne (Ne.symm n)]; exact e, r⟩
/-- all but p and the tables stay -/
def ExtB (p : Addr) (H H' : Hp) : Prop := ∀ b o, b ≠ p → (∀ ps, o ≠ .tbl ps) → H b = some o → H' b = some o
theorem ExtB.trans {p : Addr} {H H1 H2 : Hp} (a : ExtB p H H1) (b : ExtB p H1 H2) : ExtB p H H2 := fun c o n t e => b c o n t (a c o n t e)
theorem ExtB.kp {p : Addr} {c : Int} {H H1 : Hp} (hp : PotAt H p c) (a : ExtB p H H1) : Kp H H1 := by
  obtain ⟨x, y, z, e, r⟩ := hp.ex
  exact ⟨fun a' o u q => a a' _ (ne_of q e (fun z => nomatch z)) (fun _ z => nomatch z) q, fun a' xs q => a a' _ (ne_of q e (fun z => nomatch z)) (fun _ z => nomatch z) q⟩
theorem extB_put {H1 H : Hp} {p D : Addr} {o : HO} (nD : H1 D = none) (s : ExtB p H1 H) : ExtB p H1 (upd H D o) := fun b u n t e => by
  rw [upd_ne (ne_of_none e nD)]
  exact s b u n t e
theorem tabs_put {T : List (Addr × Str)} {H : Hp} {D : Addr} {xs ys : List V} (t : Tabs T H) (h : H D = some (.lst ys)) : Tabs T (upd H D (.lst xs)) := by
  intro q hq
  obtain ⟨ps, h1, h2, h3⟩ := t q hq
  refine ⟨ps, by rw [upd_ne (ne_of h1 h (fun z => nomatch z))]; exact h1, h2, fun pos cv hc => ?_⟩
  obtain ⟨c', e1, e2⟩ := h3 pos cv hc
  exact ⟨c', e1, by rw [upd_ne (ne_of e2 h (fun z => by unfold CodeO at z; cases z))]; exact e2⟩
theorem iF' {P Q : Prop} (h : Q) : if false = true then P else Q := h
section
variable {P : Program} {w : World} {K : PySem.W.Frag} {mg : Str → Option Value} {base : Heap}
theorem ok_law (T : Tx P K mg) (F : Fx T) {P1 c1 : Addr} (TB : TabB base mg c1 P1) (FC : FunC K "_law_right" "_law_right" s__law_right T.a__law_right T.fd__law_right c1) :
    FnG P w K mg base CX0 72 T.a_law T.fd_law ["_law_script"] (spLaw K P1) := by
  have G__law_pot := ok_pot (w := w) (base := base) T
  have G__law_right := ok_right (w := w) (base := base) T F TB FC
  refine funG T.F_law sc_law (fun vs H Q E h => ?_) (fun cdv A outer s H vs Q E hgd hr h => ?_)
  · obtain ⟨a, ns, rfl, _⟩ := h
    rfl
  obtain ⟨a, ns, rfl, ha, hz, tb, k⟩ := h
  refine ⟨_, (pss_cons (ps_for PassesOwn.never rfl (pi_range1 (by rfl) T.n_range (pa_cons (pe_callB (call_max2 rfl) (by rfl) T.n_max PyProof.Rows.Boot.«max» (pa_cons pe_int (pa_cons (pe_callB (call_min2 rfl) (by rfl) T.n_min PyProof.Rows.Boot.«min» (pa_cons pe_int (pa_cons (pe_callB call_len (by rfl) T.n_len PyProof.Rows.Boot.«len» (pa_cons (pv 0) pa_nil)) pa_nil))) pa_nil))) pa_nil)) (pg_name (i := 1) sc_law.nd rfl (Or.inl rfl)) (pss_cons (ps_set (i := 2) sc_law.nd rfl (Or.inr rfl) (pe_call G__law_pot (hr.mono (by first | decide | omega)) (by rfl) T.m__law_pot T.F__law_pot.kp T.b__law_pot .nil pass0 (pa_cons (pv 0) (pa_cons (pv 1) pa_nil))))
      (pss_one (ps_if (pt_not (pt_val (pe_callB (cr_all rfl) (by rfl) T.n_all PyProof.Rows.Boot.«all» (pa_cons (pe_lc (own := [("_law_turn", 3)]) (g := gName 3) (tt := tYes) (by rfl) sc_law.nd (pi_range1 (by rfl) T.n_range (pa_cons pe_int pa_nil)) (blkOk_by (own := [("_law_turn", 3)]) (N := ["_law_script", "_law_k", "_law_pot_here", "_law_turn"]) (sc := defScope s_law) (by decide +kernel)) (fun _ _ _ _ _ => (pg_name (i := 3) sc_law.nd rfl (Or.inl rfl))) (fun _ _ _ _ _ => pts_nil) (fun _ _ _ _ _ => (pe_callG G__law_right hgd (hr.mono (by first | decide | omega)) (by rfl) T.m__law_right T.F__law_right.kp T.b__law_right .nil pass0 (pa_cons (pv 2) pa_nil)))) pa_nil)))) (pss_one (ps_ret pe_bl)) pss_nil))))
      (pss_one (ps_ret pe_bl))), ?_⟩
  have hc := cnt_ok (ns.map V.int).length
  refine ⟨_, rfl, _, _, rfl, .inl ⟨_, ha, rfl⟩, _, _, rfl, _, _, rfl, _, rfl, cnt_lo _, cnt_hi _, for_it walk_range (fun i σ H3 => ∃ x1 x2, σ = [some (.ref a), x1, x2, none] ∧ ExtN H H3 ∧ Tabs (tabL P1) H3) ⟨none, none, rfl, ExtN.refl _, tb⟩ (fun _ _ _ _ _ => trivial) ?_ fun σ H3 _ => k H3⟩
  rintro i x σ H3 H4 hi ⟨x1, x2, rfl, s3, t3⟩ ⟨rfl, rfl⟩
  have hi3 : (i : Int) < 3 := by
    have h3 : i < (cnt (ns.map V.int).length).toNat := hi
    omega
  refine ⟨_, rfl, _, rfl, a, ns, _, rfl, sq_ext s3 ha, hz, by omega, by omega, fun H5 p s5 np hp => ?_⟩
  have t5 := t3.ext s5
  refine ⟨(12 : Int), rfl, by decide, by decide, fun D nD => ?_⟩
  have Dp := pot_ne hp nD
  refine lc_gen walk_range (fun j H6 => ExtB p H5 H6 ∧ PotAt H6 p (70 * (j : Int)) ∧ Tabs (tabL P1) H6) (fun _ v _ => v = .bl true) (fun j H6 xs ys a hy => ⟨extB_put nD a.1, pot_put a.2.1 Dp, tabs_put a.2.2 hy⟩) (fun _ v _ _ e _ => e) (by decide)
    ⟨extB_put nD (fun _ _ _ _ e => e), (pot_put hp Dp).up (by omega), t5.ext (same_new nD)⟩ (fun _ _ _ _ => trivial) ?_ ?_
  · rintro j x H6 H7 acc hj ⟨b6, hp6, t6⟩ hD ⟨rfl, rfl⟩ Qc kc
    have hj6 : j < 12 := hj
    refine ⟨rfl, _, rfl, p, 70 * (j : Int), rfl, hp6, by omega, t6, fun H8 c8 hc8 x8 hp8 t8 => kc _ H8 (x8 _ _ Dp (fun _ z => nomatch z) hD) (ExtB.kp hp6 x8) ⟨b6.trans x8, hp8.up (by omega), t8⟩ rfl⟩
  rintro H7 ys ⟨x7, hp7, t7⟩ hD7 hl7 hy7
  have ey := trues hy7
  refine ⟨D, List.replicate ys.length true, rfl, SqL.of (by rw [← ey]; exact hD7), true, by rw [all_rep], iF ?_⟩
  refine ⟨_, _, rfl, fun b o e t => ?_, t7⟩
  have bp : b ≠ p := ne_of_none (s3 b o e t) np
  exact x7 b o bp t (s5 b o (s3 b o e t))
end
end K88
end
set_option Elab.async false
set_option linter.all false
set_option maxRecDepth 100000
set_option maxHeartbeats 8000000
namespace K88
open PySem PySem.Spec PyProof.Rows L2 Tg LamX Dw
def tx_mk {P : Program} {K : PySem.W.Frag} {h : Heap} {mg : Str → Option Value} (X : K.In h) (G : h.Ns mainGlobals mg)
    {C0 fI cda cc : Addr} {ql file : Str} {kV dc pm ct oc ccl cl : Value} {an od cdd cld : Option Addr} {sl ccs csl : Array (Option Value)} {vs : Array Value} {tf : Tok} {cdD : ClassData}
    {C_TaglessError C_NoDocument C_BadText : Addr}
    {t_MOST_LETTERS : Tok}
    {t_QUOTE : Tok}
    {t_STROKE : Tok}
    {t_PARTED : Tok}
    {t_NAMED : Tok}
    {t_YES : Tok}
    {t_NO : Tok}
    {t_MINUS : Tok}
    {t_DIGITS : Tok}
    {t_MOST_DIGITS : Tok}
    {t_PAIR : Tok}
    {a_is_name : Addr} {od_is_name an_is_name : Option Addr} {sl_is_name : Array (Option Value)} {oc_is_name kV_is_name dc_is_name pm_is_name cd_is_name ct_is_name : Value}
    {a_is_document : Addr} {od_is_document an_is_document : Option Addr} {sl_is_document : Array (Option Value)} {oc_is_document kV_is_document dc_is_document pm_is_document cd_is_document ct_is_document : Value}
    {a_check_document : Addr} {od_check_document an_check_document : Option Addr} {sl_check_document : Array (Option Value)} {oc_check_document kV_check_document dc_check_document pm_check_document cd_check_document ct_check_document : Value}
    {a_string_text : Addr} {od_string_text an_string_text : Option Addr} {sl_string_text : Array (Option Value)} {oc_string_text kV_string_text dc_string_text pm_string_text cd_string_text ct_string_text : Value}
    {a_document_text : Addr} {od_document_text an_document_text : Option Addr} {sl_document_text : Array (Option Value)} {oc_document_text kV_document_text dc_document_text pm_document_text cd_document_text ct_document_text : Value}
    {a_show_document : Addr} {od_show_document an_show_document : Option Addr} {sl_show_document : Array (Option Value)} {oc_show_document kV_show_document dc_show_document pm_show_document cd_show_document ct_show_document : Value}
    {a_digits_behind : Addr} {od_digits_behind an_digits_behind : Option Addr} {sl_digits_behind : Array (Option Value)} {oc_digits_behind kV_digits_behind dc_digits_behind pm_digits_behind cd_digits_behind ct_digits_behind : Value}
    {a_number_at : Addr} {od_number_at an_number_at : Option Addr} {sl_number_at : Array (Option Value)} {oc_number_at kV_number_at dc_number_at pm_number_at cd_number_at ct_number_at : Value}
    {a_string_at : Addr} {od_string_at an_string_at : Option Addr} {sl_string_at : Array (Option Value)} {oc_string_at kV_string_at dc_string_at pm_string_at cd_string_at ct_string_at : Value}
    {a_list_at : Addr} {od_list_at an_list_at : Option Addr} {sl_list_at : Array (Option Value)} {oc_list_at kV_list_at dc_list_at pm_list_at cd_list_at ct_list_at : Value}
    {a_field_at : Addr} {od_field_at an_field_at : Option Addr} {sl_field_at : Array (Option Value)} {oc_field_at kV_field_at dc_field_at pm_field_at cd_field_at ct_field_at : Value}
    {a_record_at : Addr} {od_record_at an_record_at : Option Addr} {sl_record_at : Array (Option Value)} {oc_record_at kV_record_at dc_record_at pm_record_at cd_record_at ct_record_at : Value}
    {a_part_at : Addr} {od_part_at an_part_at : Option Addr} {sl_part_at : Array (Option Value)} {oc_part_at kV_part_at dc_part_at pm_part_at cd_part_at ct_part_at : Value}
    {a_document_in : Addr} {od_document_in an_document_in : Option Addr} {sl_document_in : Array (Option Value)} {oc_document_in kV_document_in dc_document_in pm_document_in cd_document_in ct_document_in : Value}
    {a_read_document : Addr} {od_read_document an_read_document : Option Addr} {sl_read_document : Array (Option Value)} {oc_read_document kV_read_document dc_read_document pm_read_document cd_read_document ct_read_document : Value}
    {a__law_pot : Addr} {od__law_pot an__law_pot : Option Addr} {sl__law_pot : Array (Option Value)} {oc__law_pot kV__law_pot dc__law_pot pm__law_pot cd__law_pot ct__law_pot : Value}
    {a__law_take : Addr} {od__law_take an__law_take : Option Addr} {sl__law_take : Array (Option Value)} {oc__law_take kV__law_take dc__law_take pm__law_take cd__law_take ct__law_take : Value}
    {a__law_of : Addr} {od__law_of an__law_of : Option Addr} {sl__law_of : Array (Option Value)} {oc__law_of kV__law_of dc__law_of pm__law_of cd__law_of ct__law_of : Value}
    {a__law_unlike : Addr} {od__law_unlike an__law_unlike : Option Addr} {sl__law_unlike : Array (Option Value)} {oc__law_unlike kV__law_unlike dc__law_unlike pm__law_unlike cd__law_unlike ct__law_unlike : Value}
    {a__law_flat : Addr} {od__law_flat an__law_flat : Option Addr} {sl__law_flat : Array (Option Value)} {oc__law_flat kV__law_flat dc__law_flat pm__law_flat cd__law_flat ct__law_flat : Value}
    {a__law_any : Addr} {od__law_any an__law_any : Option Addr} {sl__law_any : Array (Option Value)} {oc__law_any kV__law_any dc__law_any pm__law_any cd__law_any ct__law_any : Value}
    {a__law_writ : Addr} {od__law_writ an__law_writ : Option Addr} {sl__law_writ : Array (Option Value)} {oc__law_writ kV__law_writ dc__law_writ pm__law_writ cd__law_writ ct__law_writ : Value}
    {a__law_items : Addr} {od__law_items an__law_items : Option Addr} {sl__law_items : Array (Option Value)} {oc__law_items kV__law_items dc__law_items pm__law_items cd__law_items ct__law_items : Value}
    {a__law_string : Addr} {od__law_string an__law_string : Option Addr} {sl__law_string : Array (Option Value)} {oc__law_string kV__law_string dc__law_string pm__law_string cd__law_string ct__law_string : Value}
    {a__law_part : Addr} {od__law_part an__law_part : Option Addr} {sl__law_part : Array (Option Value)} {oc__law_part kV__law_part dc__law_part pm__law_part cd__law_part ct__law_part : Value}
    {a__law_bent_text : Addr} {od__law_bent_text an__law_bent_text : Option Addr} {sl__law_bent_text : Array (Option Value)} {oc__law_bent_text kV__law_bent_text dc__law_bent_text pm__law_bent_text cd__law_bent_text ct__law_bent_text : Value}
    {a__law_text_drawn : Addr} {od__law_text_drawn an__law_text_drawn : Option Addr} {sl__law_text_drawn : Array (Option Value)} {oc__law_text_drawn kV__law_text_drawn dc__law_text_drawn pm__law_text_drawn cd__law_text_drawn ct__law_text_drawn : Value}
    {a__law_caught : Addr} {od__law_caught an__law_caught : Option Addr} {sl__law_caught : Array (Option Value)} {oc__law_caught kV__law_caught dc__law_caught pm__law_caught cd__law_caught ct__law_caught : Value}
    {a__law_right : Addr} {od__law_right an__law_right : Option Addr} {sl__law_right : Array (Option Value)} {oc__law_right kV__law_right dc__law_right pm__law_right cd__law_right ct__law_right : Value}
    {a_law : Addr} {od_law an_law : Option Addr} {sl_law : Array (Option Value)} {oc_law kV_law dc_law pm_law cd_law ct_law : Value}
    (aD : PySem.W.nsIn K mainGlobals "TaglessError" = some (some (.ref C0)))
    (iD : PySem.W.findIn K (.ref C0) "__init__" = some (some (.ref fI)))
    (iL : K.lookup fI = some ⟨oc, od, .func (iFn ql .none kV dc pm an cda ct cc), sl⟩)
    (iC : PySem.W.codeIn K (.ref cda) ql = true)
    (iO : K.lookup cda = some ⟨ccl, cdd, .fields vs, ccs⟩)
    (iV : vs[2]? = some (.str file tf))
    (iF : ((P.main.file : Str) == file) = true)
    (iE : K.lookup cc = some ⟨cl, cld, .cell (some (.ref C0)), csl⟩)
    (iK : PySem.W.clsIn K C0 = some cdD)
    (iS : PySem.W.nsIn K mainGlobals "super" = some none)
    (iT : PySem.W.nsIn K cStatics "thirdparty.any" = some none)
    (iP : (P.main.scope.names.lookup ("super" : Str)).isSome = false)
    (iY : PySem.W.typeIn K (.ref fI) = some (.type "function"))
    (aC_TaglessError : PySem.W.nsIn K mainGlobals "TaglessError" = some (some (.ref C_TaglessError)))
    (aC_NoDocument : PySem.W.nsIn K mainGlobals "NoDocument" = some (some (.ref C_NoDocument)))
    (aC_BadText : PySem.W.nsIn K mainGlobals "BadText" = some (some (.ref C_BadText)))
    (eC : ([C_TaglessError, C_NoDocument, C_BadText].all fun c => errB K fI C0 c) = true)
    (k_MOST_LETTERS : PySem.W.nsIn K mainGlobals "MOST_LETTERS" = some (some (.int 8 t_MOST_LETTERS)))
    (k_QUOTE : PySem.W.nsIn K mainGlobals "QUOTE" = some (some (.str "\"" t_QUOTE)))
    (k_STROKE : PySem.W.nsIn K mainGlobals "STROKE" = some (some (.str "\\" t_STROKE)))
    (k_PARTED : PySem.W.nsIn K mainGlobals "PARTED" = some (some (.str ", " t_PARTED)))
    (k_NAMED : PySem.W.nsIn K mainGlobals "NAMED" = some (some (.str ": " t_NAMED)))
    (k_YES : PySem.W.nsIn K mainGlobals "YES" = some (some (.str "yes" t_YES)))
    (k_NO : PySem.W.nsIn K mainGlobals "NO" = some (some (.str "no" t_NO)))
    (k_MINUS : PySem.W.nsIn K mainGlobals "MINUS" = some (some (.str "-" t_MINUS)))
    (k_DIGITS : PySem.W.nsIn K mainGlobals "DIGITS" = some (some (.str "0123456789" t_DIGITS)))
    (k_MOST_DIGITS : PySem.W.nsIn K mainGlobals "MOST_DIGITS" = some (some (.int 4000 t_MOST_DIGITS)))
    (k_PAIR : PySem.W.nsIn K mainGlobals "PAIR" = some (some (.int 2 t_PAIR)))
    (z_ValueError : PySem.W.nsIn K mainGlobals "ValueError" = some none)
    (z_abs : PySem.W.nsIn K mainGlobals "abs" = some none)
    (z_all : PySem.W.nsIn K mainGlobals "all" = some none)
    (z_bool : PySem.W.nsIn K mainGlobals "bool" = some none)
    (z_dict : PySem.W.nsIn K mainGlobals "dict" = some none)
    (z_int : PySem.W.nsIn K mainGlobals "int" = some none)
    (z_isinstance : PySem.W.nsIn K mainGlobals "isinstance" = some none)
    (z_len : PySem.W.nsIn K mainGlobals "len" = some none)
    (z_list : PySem.W.nsIn K mainGlobals "list" = some none)
    (z_max : PySem.W.nsIn K mainGlobals "max" = some none)
    (z_min : PySem.W.nsIn K mainGlobals "min" = some none)
    (z_range : PySem.W.nsIn K mainGlobals "range" = some none)
    (z_repr : PySem.W.nsIn K mainGlobals "repr" = some none)
    (z_sorted : PySem.W.nsIn K mainGlobals "sorted" = some none)
    (z_str : PySem.W.nsIn K mainGlobals "str" = some none)
    (aF_is_name : PySem.W.nsIn K mainGlobals "is_name" = some (some (.ref a_is_name)))
    (l_is_name : K.lookup a_is_name = some ⟨oc_is_name, od_is_name, .func (PySem.W.fnOf "is_name" "is_name" (defArgs s_is_name) (defBody s_is_name) (defScope s_is_name) .none kV_is_name dc_is_name pm_is_name an_is_name cd_is_name ct_is_name), sl_is_name⟩)
    (c_is_name : PySem.W.codeIn K cd_is_name "is_name" = true)
    (k_is_name : PySem.W.keepIn K (.ref a_is_name) = true)
    (aF_is_document : PySem.W.nsIn K mainGlobals "is_document" = some (some (.ref a_is_document)))
    (l_is_document : K.lookup a_is_document = some ⟨oc_is_document, od_is_document, .func (PySem.W.fnOf "is_document" "is_document" (defArgs s_is_document) (defBody s_is_document) (defScope s_is_document) .none kV_is_document dc_is_document pm_is_document an_is_document cd_is_document ct_is_document), sl_is_document⟩)
    (c_is_document : PySem.W.codeIn K cd_is_document "is_document" = true)
    (k_is_document : PySem.W.keepIn K (.ref a_is_document) = true)
    (aF_check_document : PySem.W.nsIn K mainGlobals "check_document" = some (some (.ref a_check_document)))
    (l_check_document : K.lookup a_check_document = some ⟨oc_check_document, od_check_document, .func (PySem.W.fnOf "check_document" "check_document" (defArgs s_check_document) (defBody s_check_document) (defScope s_check_document) .none kV_check_document dc_check_document pm_check_document an_check_document cd_check_document ct_check_document), sl_check_document⟩)
    (c_check_document : PySem.W.codeIn K cd_check_document "check_document" = true)
    (k_check_document : PySem.W.keepIn K (.ref a_check_document) = true)
    (aF_string_text : PySem.W.nsIn K mainGlobals "string_text" = some (some (.ref a_string_text)))
    (l_string_text : K.lookup a_string_text = some ⟨oc_string_text, od_string_text, .func (PySem.W.fnOf "string_text" "string_text" (defArgs s_string_text) (defBody s_string_text) (defScope s_string_text) .none kV_string_text dc_string_text pm_string_text an_string_text cd_string_text ct_string_text), sl_string_text⟩)
    (c_string_text : PySem.W.codeIn K cd_string_text "string_text" = true)
    (k_string_text : PySem.W.keepIn K (.ref a_string_text) = true)
    (aF_document_text : PySem.W.nsIn K mainGlobals "document_text" = some (some (.ref a_document_text)))
    (l_document_text : K.lookup a_document_text = some ⟨oc_document_text, od_document_text, .func (PySem.W.fnOf "document_text" "document_text" (defArgs s_document_text) (defBody s_document_text) (defScope s_document_text) .none kV_document_text dc_document_text pm_document_text an_document_text cd_document_text ct_document_text), sl_document_text⟩)
    (c_document_text : PySem.W.codeIn K cd_document_text "document_text" = true)
    (k_document_text : PySem.W.keepIn K (.ref a_document_text) = true)
    (aF_show_document : PySem.W.nsIn K mainGlobals "show_document" = some (some (.ref a_show_document)))
    (l_show_document : K.lookup a_show_document = some ⟨oc_show_document, od_show_document, .func (PySem.W.fnOf "show_document" "show_document" (defArgs s_show_document) (defBody s_show_document) (defScope s_show_document) .none kV_show_document dc_show_document pm_show_document an_show_document cd_show_document ct_show_document), sl_show_document⟩)
    (c_show_document : PySem.W.codeIn K cd_show_document "show_document" = true)
    (k_show_document : PySem.W.keepIn K (.ref a_show_document) = true)
    (aF_digits_behind : PySem.W.nsIn K mainGlobals "digits_behind" = some (some (.ref a_digits_behind)))
    (l_digits_behind : K.lookup a_digits_behind = some ⟨oc_digits_behind, od_digits_behind, .func (PySem.W.fnOf "digits_behind" "digits_behind" (defArgs s_digits_behind) (defBody s_digits_behind) (defScope s_digits_behind) .none kV_digits_behind dc_digits_behind pm_digits_behind an_digits_behind cd_digits_behind ct_digits_behind), sl_digits_behind⟩)
    (c_digits_behind : PySem.W.codeIn K cd_digits_behind "digits_behind" = true)
    (k_digits_behind : PySem.W.keepIn K (.ref a_digits_behind) = true)
    (aF_number_at : PySem.W.nsIn K mainGlobals "number_at" = some (some (.ref a_number_at)))
    (l_number_at : K.lookup a_number_at = some ⟨oc_number_at, od_number_at, .func (PySem.W.fnOf "number_at" "number_at" (defArgs s_number_at) (defBody s_number_at) (defScope s_number_at) .none kV_number_at dc_number_at pm_number_at an_number_at cd_number_at ct_number_at), sl_number_at⟩)
    (c_number_at : PySem.W.codeIn K cd_number_at "number_at" = true)
    (k_number_at : PySem.W.keepIn K (.ref a_number_at) = true)
    (aF_string_at : PySem.W.nsIn K mainGlobals "string_at" = some (some (.ref a_string_at)))
    (l_string_at : K.lookup a_string_at = some ⟨oc_string_at, od_string_at, .func (PySem.W.fnOf "string_at" "string_at" (defArgs s_string_at) (defBody s_string_at) (defScope s_string_at) .none kV_string_at dc_string_at pm_string_at an_string_at cd_string_at ct_string_at), sl_string_at⟩)
    (c_string_at : PySem.W.codeIn K cd_string_at "string_at" = true)
    (k_string_at : PySem.W.keepIn K (.ref a_string_at) = true)
    (aF_list_at : PySem.W.nsIn K mainGlobals "list_at" = some (some (.ref a_list_at)))
    (l_list_at : K.lookup a_list_at = some ⟨oc_list_at, od_list_at, .func (PySem.W.fnOf "list_at" "list_at" (defArgs s_list_at) (defBody s_list_at) (defScope s_list_at) .none kV_list_at dc_list_at pm_list_at an_list_at cd_list_at ct_list_at), sl_list_at⟩)
    (c_list_at : PySem.W.codeIn K cd_list_at "list_at" = true)
    (k_list_at : PySem.W.keepIn K (.ref a_list_at) = true)
    (aF_field_at : PySem.W.nsIn K mainGlobals "field_at" = some (some (.ref a_field_at)))
    (l_field_at : K.lookup a_field_at = some ⟨oc_field_at, od_field_at, .func (PySem.W.fnOf "field_at" "field_at" (defArgs s_field_at) (defBody s_field_at) (defScope s_field_at) .none kV_field_at dc_field_at pm_field_at an_field_at cd_field_at ct_field_at), sl_field_at⟩)
    (c_field_at : PySem.W.codeIn K cd_field_at "field_at" = true)
    (k_field_at : PySem.W.keepIn K (.ref a_field_at) = true)
    (aF_record_at : PySem.W.nsIn K mainGlobals "record_at" = some (some (.ref a_record_at)))
    (l_record_at : K.lookup a_record_at = some ⟨oc_record_at, od_record_at, .func (PySem.W.fnOf "record_at" "record_at" (defArgs s_record_at) (defBody s_record_at) (defScope s_record_at) .none kV_record_at dc_record_at pm_record_at an_record_at cd_record_at ct_record_at), sl_record_at⟩)
    (c_record_at : PySem.W.codeIn K cd_record_at "record_at" = true)
    (k_record_at : PySem.W.keepIn K (.ref a_record_at) = true)
    (aF_part_at : PySem.W.nsIn K mainGlobals "part_at" = some (some (.ref a_part_at)))
    (l_part_at : K.lookup a_part_at = some ⟨oc_part_at, od_part_at, .func (PySem.W.fnOf "part_at" "part_at" (defArgs s_part_at) (defBody s_part_at) (defScope s_part_at) .none kV_part_at dc_part_at pm_part_at an_part_at cd_part_at ct_part_at), sl_part_at⟩)
    (c_part_at : PySem.W.codeIn K cd_part_at "part_at" = true)
    (k_part_at : PySem.W.keepIn K (.ref a_part_at) = true)
    (aF_document_in : PySem.W.nsIn K mainGlobals "document_in" = some (some (.ref a_document_in)))
    (l_document_in : K.lookup a_document_in = some ⟨oc_document_in, od_document_in, .func (PySem.W.fnOf "document_in" "document_in" (defArgs s_document_in) (defBody s_document_in) (defScope s_document_in) .none kV_document_in dc_document_in pm_document_in an_document_in cd_document_in ct_document_in), sl_document_in⟩)
    (c_document_in : PySem.W.codeIn K cd_document_in "document_in" = true)
    (k_document_in : PySem.W.keepIn K (.ref a_document_in) = true)
    (aF_read_document : PySem.W.nsIn K mainGlobals "read_document" = some (some (.ref a_read_document)))
    (l_read_document : K.lookup a_read_document = some ⟨oc_read_document, od_read_document, .func (PySem.W.fnOf "read_document" "read_document" (defArgs s_read_document) (defBody s_read_document) (defScope s_read_document) .none kV_read_document dc_read_document pm_read_document an_read_document cd_read_document ct_read_document), sl_read_document⟩)
    (c_read_document : PySem.W.codeIn K cd_read_document "read_document" = true)
    (k_read_document : PySem.W.keepIn K (.ref a_read_document) = true)
    (aF__law_pot : PySem.W.nsIn K mainGlobals "_law_pot" = some (some (.ref a__law_pot)))
    (l__law_pot : K.lookup a__law_pot = some ⟨oc__law_pot, od__law_pot, .func (PySem.W.fnOf "_law_pot" "_law_pot" (defArgs s__law_pot) (defBody s__law_pot) (defScope s__law_pot) .none kV__law_pot dc__law_pot pm__law_pot an__law_pot cd__law_pot ct__law_pot), sl__law_pot⟩)
    (c__law_pot : PySem.W.codeIn K cd__law_pot "_law_pot" = true)
    (k__law_pot : PySem.W.keepIn K (.ref a__law_pot) = true)
    (aF__law_take : PySem.W.nsIn K mainGlobals "_law_take" = some (some (.ref a__law_take)))
    (l__law_take : K.lookup a__law_take = some ⟨oc__law_take, od__law_take, .func (PySem.W.fnOf "_law_take" "_law_take" (defArgs s__law_take) (defBody s__law_take) (defScope s__law_take) .none kV__law_take dc__law_take pm__law_take an__law_take cd__law_take ct__law_take), sl__law_take⟩)
    (c__law_take : PySem.W.codeIn K cd__law_take "_law_take" = true)
    (k__law_take : PySem.W.keepIn K (.ref a__law_take) = true)
    (aF__law_of : PySem.W.nsIn K mainGlobals "_law_of" = some (some (.ref a__law_of)))
    (l__law_of : K.lookup a__law_of = some ⟨oc__law_of, od__law_of, .func (PySem.W.fnOf "_law_of" "_law_of" (defArgs s__law_of) (defBody s__law_of) (defScope s__law_of) .none kV__law_of dc__law_of pm__law_of an__law_of cd__law_of ct__law_of), sl__law_of⟩)
    (c__law_of : PySem.W.codeIn K cd__law_of "_law_of" = true)
    (k__law_of : PySem.W.keepIn K (.ref a__law_of) = true)
    (aF__law_unlike : PySem.W.nsIn K mainGlobals "_law_unlike" = some (some (.ref a__law_unlike)))
    (l__law_unlike : K.lookup a__law_unlike = some ⟨oc__law_unlike, od__law_unlike, .func (PySem.W.fnOf "_law_unlike" "_law_unlike" (defArgs s__law_unlike) (defBody s__law_unlike) (defScope s__law_unlike) .none kV__law_unlike dc__law_unlike pm__law_unlike an__law_unlike cd__law_unlike ct__law_unlike), sl__law_unlike⟩)
    (c__law_unlike : PySem.W.codeIn K cd__law_unlike "_law_unlike" = true)
    (k__law_unlike : PySem.W.keepIn K (.ref a__law_unlike) = true)
    (aF__law_flat : PySem.W.nsIn K mainGlobals "_law_flat" = some (some (.ref a__law_flat)))
    (l__law_flat : K.lookup a__law_flat = some ⟨oc__law_flat, od__law_flat, .func (PySem.W.fnOf "_law_flat" "_law_flat" (defArgs s__law_flat) (defBody s__law_flat) (defScope s__law_flat) .none kV__law_flat dc__law_flat pm__law_flat an__law_flat cd__law_flat ct__law_flat), sl__law_flat⟩)
    (c__law_flat : PySem.W.codeIn K cd__law_flat "_law_flat" = true)
    (k__law_flat : PySem.W.keepIn K (.ref a__law_flat) = true)
    (aF__law_any : PySem.W.nsIn K mainGlobals "_law_any" = some (some (.ref a__law_any)))
    (l__law_any : K.lookup a__law_any = some ⟨oc__law_any, od__law_any, .func (PySem.W.fnOf "_law_any" "_law_any" (defArgs s__law_any) (defBody s__law_any) (defScope s__law_any) .none kV__law_any dc__law_any pm__law_any an__law_any cd__law_any ct__law_any), sl__law_any⟩)
    (c__law_any : PySem.W.codeIn K cd__law_any "_law_any" = true)
    (k__law_any : PySem.W.keepIn K (.ref a__law_any) = true)
    (aF__law_writ : PySem.W.nsIn K mainGlobals "_law_writ" = some (some (.ref a__law_writ)))
    (l__law_writ : K.lookup a__law_writ = some ⟨oc__law_writ, od__law_writ, .func (PySem.W.fnOf "_law_writ" "_law_writ" (defArgs s__law_writ) (defBody s__law_writ) (defScope s__law_writ) .none kV__law_writ dc__law_writ pm__law_writ an__law_writ cd__law_writ ct__law_writ), sl__law_writ⟩)
    (c__law_writ : PySem.W.codeIn K cd__law_writ "_law_writ" = true)
    (k__law_writ : PySem.W.keepIn K (.ref a__law_writ) = true)
    (aF__law_items : PySem.W.nsIn K mainGlobals "_law_items" = some (some (.ref a__law_items)))
    (l__law_items : K.lookup a__law_items = some ⟨oc__law_items, od__law_items, .func (PySem.W.fnOf "_law_items" "_law_items" (defArgs s__law_items) (defBody s__law_items) (defScope s__law_items) .none kV__law_items dc__law_items pm__law_items an__law_items cd__law_items ct__law_items), sl__law_items⟩)
    (c__law_items : PySem.W.codeIn K cd__law_items "_law_items" = true)
    (k__law_items : PySem.W.keepIn K (.ref a__law_items) = true)
    (aF__law_string : PySem.W.nsIn K mainGlobals "_law_string" = some (some (.ref a__law_string)))
    (l__law_string : K.lookup a__law_string = some ⟨oc__law_string, od__law_string, .func (PySem.W.fnOf "_law_string" "_law_string" (defArgs s__law_string) (defBody s__law_string) (defScope s__law_string) .none kV__law_string dc__law_string pm__law_string an__law_string cd__law_string ct__law_string), sl__law_string⟩)
    (c__law_string : PySem.W.codeIn K cd__law_string "_law_string" = true)
    (k__law_string : PySem.W.keepIn K (.ref a__law_string) = true)
    (aF__law_part : PySem.W.nsIn K mainGlobals "_law_part" = some (some (.ref a__law_part)))
    (l__law_part : K.lookup a__law_part = some ⟨oc__law_part, od__law_part, .func (PySem.W.fnOf "_law_part" "_law_part" (defArgs s__law_part) (defBody s__law_part) (defScope s__law_part) .none kV__law_part dc__law_part pm__law_part an__law_part cd__law_part ct__law_part), sl__law_part⟩)
    (c__law_part : PySem.W.codeIn K cd__law_part "_law_part" = true)
    (k__law_part : PySem.W.keepIn K (.ref a__law_part) = true)
    (aF__law_bent_text : PySem.W.nsIn K mainGlobals "_law_bent_text" = some (some (.ref a__law_bent_text)))
    (l__law_bent_text : K.lookup a__law_bent_text = some ⟨oc__law_bent_text, od__law_bent_text, .func (PySem.W.fnOf "_law_bent_text" "_law_bent_text" (defArgs s__law_bent_text) (defBody s__law_bent_text) (defScope s__law_bent_text) .none kV__law_bent_text dc__law_bent_text pm__law_bent_text an__law_bent_text cd__law_bent_text ct__law_bent_text), sl__law_bent_text⟩)
    (c__law_bent_text : PySem.W.codeIn K cd__law_bent_text "_law_bent_text" = true)
    (k__law_bent_text : PySem.W.keepIn K (.ref a__law_bent_text) = true)
    (aF__law_text_drawn : PySem.W.nsIn K mainGlobals "_law_text_drawn" = some (some (.ref a__law_text_drawn)))
    (l__law_text_drawn : K.lookup a__law_text_drawn = some ⟨oc__law_text_drawn, od__law_text_drawn, .func (PySem.W.fnOf "_law_text_drawn" "_law_text_drawn" (defArgs s__law_text_drawn) (defBody s__law_text_drawn) (defScope s__law_text_drawn) .none kV__law_text_drawn dc__law_text_drawn pm__law_text_drawn an__law_text_drawn cd__law_text_drawn ct__law_text_drawn), sl__law_text_drawn⟩)
    (c__law_text_drawn : PySem.W.codeIn K cd__law_text_drawn "_law_text_drawn" = true)
    (k__law_text_drawn : PySem.W.keepIn K (.ref a__law_text_drawn) = true)
    (aF__law_caught : PySem.W.nsIn K mainGlobals "_law_caught" = some (some (.ref a__law_caught)))
    (l__law_caught : K.lookup a__law_caught = some ⟨oc__law_caught, od__law_caught, .func (PySem.W.fnOf "_law_caught" "_law_caught" (defArgs s__law_caught) (defBody s__law_caught) (defScope s__law_caught) .none kV__law_caught dc__law_caught pm__law_caught an__law_caught cd__law_caught ct__law_caught), sl__law_caught⟩)
    (c__law_caught : PySem.W.codeIn K cd__law_caught "_law_caught" = true)
    (k__law_caught : PySem.W.keepIn K (.ref a__law_caught) = true)
    (aF__law_right : PySem.W.nsIn K mainGlobals "_law_right" = some (some (.ref a__law_right)))
    (l__law_right : K.lookup a__law_right = some ⟨oc__law_right, od__law_right, .func (PySem.W.fnOf "_law_right" "_law_right" (defArgs s__law_right) (defBody s__law_right) (defScope s__law_right) .none kV__law_right dc__law_right pm__law_right an__law_right cd__law_right ct__law_right), sl__law_right⟩)
    (c__law_right : PySem.W.codeIn K cd__law_right "_law_right" = true)
    (k__law_right : PySem.W.keepIn K (.ref a__law_right) = true)
    (aF_law : PySem.W.nsIn K mainGlobals "law" = some (some (.ref a_law)))
    (l_law : K.lookup a_law = some ⟨oc_law, od_law, .func (PySem.W.fnOf "law" "law" (defArgs s_law) (defBody s_law) (defScope s_law) .none kV_law dc_law pm_law an_law cd_law ct_law), sl_law⟩)
    (c_law : PySem.W.codeIn K cd_law "law" = true)
    (k_law : PySem.W.keepIn K (.ref a_law) = true) : Tx P K mg :=
  { D := C0,
    fI := fI,
    fdI := iFn ql .none kV dc pm an cda ct cc,
    ini := ⟨⟨ql, file, .none, kV, dc, pm, ct, oc, ccl, cl, an, od, cdd, cld, sl, ccs, csl, cda, cc, vs, tf, cdD, rfl, iL, iC, iO, iV, iF, iE, iK⟩, PySem.W.mg_none_of X G iS, iT, iP, iY⟩,
    b_ini := .all fun us hl => match us, hl with | [_, _], _ => rfl,
    C_TaglessError := C_TaglessError,
    e_TaglessError := errB_ok (List.all_eq_true.mp eC C_TaglessError (by simp)),
    m_TaglessError := PySem.W.mg_of X G aC_TaglessError,
    C_NoDocument := C_NoDocument,
    e_NoDocument := errB_ok (List.all_eq_true.mp eC C_NoDocument (by simp)),
    m_NoDocument := PySem.W.mg_of X G aC_NoDocument,
    C_BadText := C_BadText,
    e_BadText := errB_ok (List.all_eq_true.mp eC C_BadText (by simp)),
    m_BadText := PySem.W.mg_of X G aC_BadText,
    t_MOST_LETTERS := t_MOST_LETTERS,
    m_MOST_LETTERS := PySem.W.mg_of X G k_MOST_LETTERS,
    t_QUOTE := t_QUOTE,
    m_QUOTE := PySem.W.mg_of X G k_QUOTE,
    t_STROKE := t_STROKE,
    m_STROKE := PySem.W.mg_of X G k_STROKE,
    t_PARTED := t_PARTED,
    m_PARTED := PySem.W.mg_of X G k_PARTED,
    t_NAMED := t_NAMED,
    m_NAMED := PySem.W.mg_of X G k_NAMED,
    t_YES := t_YES,
    m_YES := PySem.W.mg_of X G k_YES,
    t_NO := t_NO,
    m_NO := PySem.W.mg_of X G k_NO,
    t_MINUS := t_MINUS,
    m_MINUS := PySem.W.mg_of X G k_MINUS,
    t_DIGITS := t_DIGITS,
    m_DIGITS := PySem.W.mg_of X G k_DIGITS,
    t_MOST_DIGITS := t_MOST_DIGITS,
    m_MOST_DIGITS := PySem.W.mg_of X G k_MOST_DIGITS,
    t_PAIR := t_PAIR,
    m_PAIR := PySem.W.mg_of X G k_PAIR,
    n_ValueError := PySem.W.mg_none_of X G z_ValueError,
    n_abs := PySem.W.mg_none_of X G z_abs,
    n_all := PySem.W.mg_none_of X G z_all,
    n_bool := PySem.W.mg_none_of X G z_bool,
    n_dict := PySem.W.mg_none_of X G z_dict,
    n_int := PySem.W.mg_none_of X G z_int,
    n_isinstance := PySem.W.mg_none_of X G z_isinstance,
    n_len := PySem.W.mg_none_of X G z_len,
    n_list := PySem.W.mg_none_of X G z_list,
    n_max := PySem.W.mg_none_of X G z_max,
    n_min := PySem.W.mg_none_of X G z_min,
    n_range := PySem.W.mg_none_of X G z_range,
    n_repr := PySem.W.mg_none_of X G z_repr,
    n_sorted := PySem.W.mg_none_of X G z_sorted,
    n_str := PySem.W.mg_none_of X G z_str,
    a_is_name := a_is_name,
    fd_is_name := _,
    F_is_name := fun_mk (st := s_is_name) l_is_name c_is_name k_is_name,
    b_is_name := (fun_mk (st := s_is_name) l_is_name c_is_name k_is_name).binds fun _ _ _ _ _ _ us hl => match us, hl with | [_], _ => rfl,
    m_is_name := PySem.W.mg_of X G aF_is_name,
    a_is_document := a_is_document,
    fd_is_document := _,
    F_is_document := fun_mk (st := s_is_document) l_is_document c_is_document k_is_document,
    b_is_document := (fun_mk (st := s_is_document) l_is_document c_is_document k_is_document).binds fun _ _ _ _ _ _ us hl => match us, hl with | [_], _ => rfl,
    m_is_document := PySem.W.mg_of X G aF_is_document,
    a_check_document := a_check_document,
    fd_check_document := _,
    F_check_document := fun_mk (st := s_check_document) l_check_document c_check_document k_check_document,
    b_check_document := (fun_mk (st := s_check_document) l_check_document c_check_document k_check_document).binds fun _ _ _ _ _ _ us hl => match us, hl with | [_], _ => rfl,
    m_check_document := PySem.W.mg_of X G aF_check_document,
    a_string_text := a_string_text,
    fd_string_text := _,
    F_string_text := fun_mk (st := s_string_text) l_string_text c_string_text k_string_text,
    b_string_text := (fun_mk (st := s_string_text) l_string_text c_string_text k_string_text).binds fun _ _ _ _ _ _ us hl => match us, hl with | [_], _ => rfl,
    m_string_text := PySem.W.mg_of X G aF_string_text,
    a_document_text := a_document_text,
    fd_document_text := _,
    F_document_text := fun_mk (st := s_document_text) l_document_text c_document_text k_document_text,
    b_document_text := (fun_mk (st := s_document_text) l_document_text c_document_text k_document_text).binds fun _ _ _ _ _ _ us hl => match us, hl with | [_], _ => rfl,
    m_document_text := PySem.W.mg_of X G aF_document_text,
    a_show_document := a_show_document,
    fd_show_document := _,
    F_show_document := fun_mk (st := s_show_document) l_show_document c_show_document k_show_document,
    b_show_document := (fun_mk (st := s_show_document) l_show_document c_show_document k_show_document).binds fun _ _ _ _ _ _ us hl => match us, hl with | [_], _ => rfl,
    m_show_document := PySem.W.mg_of X G aF_show_document,
    a_digits_behind := a_digits_behind,
    fd_digits_behind := _,
    F_digits_behind := fun_mk (st := s_digits_behind) l_digits_behind c_digits_behind k_digits_behind,
    b_digits_behind := (fun_mk (st := s_digits_behind) l_digits_behind c_digits_behind k_digits_behind).binds fun _ _ _ _ _ _ us hl => match us, hl with | [_, _], _ => rfl,
    m_digits_behind := PySem.W.mg_of X G aF_digits_behind,
    a_number_at := a_number_at,
    fd_number_at := _,
    F_number_at := fun_mk (st := s_number_at) l_number_at c_number_at k_number_at,
    b_number_at := (fun_mk (st := s_number_at) l_number_at c_number_at k_number_at).binds fun _ _ _ _ _ _ us hl => match us, hl with | [_, _], _ => rfl,
    m_number_at := PySem.W.mg_of X G aF_number_at,
    a_string_at := a_string_at,
    fd_string_at := _,
    F_string_at := fun_mk (st := s_string_at) l_string_at c_string_at k_string_at,
    b_string_at := (fun_mk (st := s_string_at) l_string_at c_string_at k_string_at).binds fun _ _ _ _ _ _ us hl => match us, hl with | [_, _], _ => rfl,
    m_string_at := PySem.W.mg_of X G aF_string_at,
    a_list_at := a_list_at,
    fd_list_at := _,
    F_list_at := fun_mk (st := s_list_at) l_list_at c_list_at k_list_at,
    b_list_at := (fun_mk (st := s_list_at) l_list_at c_list_at k_list_at).binds fun _ _ _ _ _ _ us hl => match us, hl with | [_, _], _ => rfl,
    m_list_at := PySem.W.mg_of X G aF_list_at,
    a_field_at := a_field_at,
    fd_field_at := _,
    F_field_at := fun_mk (st := s_field_at) l_field_at c_field_at k_field_at,
    b_field_at := (fun_mk (st := s_field_at) l_field_at c_field_at k_field_at).binds fun _ _ _ _ _ _ us hl => match us, hl with | [_, _], _ => rfl,
    m_field_at := PySem.W.mg_of X G aF_field_at,
    a_record_at := a_record_at,
    fd_record_at := _,
    F_record_at := fun_mk (st := s_record_at) l_record_at c_record_at k_record_at,
    b_record_at := (fun_mk (st := s_record_at) l_record_at c_record_at k_record_at).binds fun _ _ _ _ _ _ us hl => match us, hl with | [_, _], _ => rfl,
    m_record_at := PySem.W.mg_of X G aF_record_at,
    a_part_at := a_part_at,
    fd_part_at := _,
    F_part_at := fun_mk (st := s_part_at) l_part_at c_part_at k_part_at,
    b_part_at := (fun_mk (st := s_part_at) l_part_at c_part_at k_part_at).binds fun _ _ _ _ _ _ us hl => match us, hl with | [_, _], _ => rfl,
    m_part_at := PySem.W.mg_of X G aF_part_at,
    a_document_in := a_document_in,
    fd_document_in := _,
    F_document_in := fun_mk (st := s_document_in) l_document_in c_document_in k_document_in,
    b_document_in := (fun_mk (st := s_document_in) l_document_in c_document_in k_document_in).binds fun _ _ _ _ _ _ us hl => match us, hl with | [_], _ => rfl,
    m_document_in := PySem.W.mg_of X G aF_document_in,
    a_read_document := a_read_document,
    fd_read_document := _,
    F_read_document := fun_mk (st := s_read_document) l_read_document c_read_document k_read_document,
    b_read_document := (fun_mk (st := s_read_document) l_read_document c_read_document k_read_document).binds fun _ _ _ _ _ _ us hl => match us, hl with | [_], _ => rfl,
    m_read_document := PySem.W.mg_of X G aF_read_document,
    a__law_pot := a__law_pot,
    fd__law_pot := _,
    F__law_pot := fun_mk (st := s__law_pot) l__law_pot c__law_pot k__law_pot,
    b__law_pot := (fun_mk (st := s__law_pot) l__law_pot c__law_pot k__law_pot).binds fun _ _ _ _ _ _ us hl => match us, hl with | [_, _], _ => rfl,
    m__law_pot := PySem.W.mg_of X G aF__law_pot,
    a__law_take := a__law_take,
    fd__law_take := _,
    F__law_take := fun_mk (st := s__law_take) l__law_take c__law_take k__law_take,
    b__law_take := (fun_mk (st := s__law_take) l__law_take c__law_take k__law_take).binds fun _ _ _ _ _ _ us hl => match us, hl with | [_, _], _ => rfl,
    m__law_take := PySem.W.mg_of X G aF__law_take,
    a__law_of := a__law_of,
    fd__law_of := _,
    F__law_of := fun_mk (st := s__law_of) l__law_of c__law_of k__law_of,
    b__law_of := (fun_mk (st := s__law_of) l__law_of c__law_of k__law_of).binds fun _ _ _ _ _ _ us hl => match us, hl with | [_, _], _ => rfl,
    m__law_of := PySem.W.mg_of X G aF__law_of,
    a__law_unlike := a__law_unlike,
    fd__law_unlike := _,
    F__law_unlike := fun_mk (st := s__law_unlike) l__law_unlike c__law_unlike k__law_unlike,
    b__law_unlike := (fun_mk (st := s__law_unlike) l__law_unlike c__law_unlike k__law_unlike).binds fun _ _ _ _ _ _ us hl => match us, hl with | [_, _, _], _ => rfl,
    m__law_unlike := PySem.W.mg_of X G aF__law_unlike,
    a__law_flat := a__law_flat,
    fd__law_flat := _,
    F__law_flat := fun_mk (st := s__law_flat) l__law_flat c__law_flat k__law_flat,
    b__law_flat := (fun_mk (st := s__law_flat) l__law_flat c__law_flat k__law_flat).binds fun _ _ _ _ _ _ us hl => match us, hl with | [_], _ => rfl,
    m__law_flat := PySem.W.mg_of X G aF__law_flat,
    a__law_any := a__law_any,
    fd__law_any := _,
    F__law_any := fun_mk (st := s__law_any) l__law_any c__law_any k__law_any,
    b__law_any := (fun_mk (st := s__law_any) l__law_any c__law_any k__law_any).binds fun _ _ _ _ _ _ us hl => match us, hl with | [_, _], _ => rfl,
    m__law_any := PySem.W.mg_of X G aF__law_any,
    a__law_writ := a__law_writ,
    fd__law_writ := _,
    F__law_writ := fun_mk (st := s__law_writ) l__law_writ c__law_writ k__law_writ,
    b__law_writ := (fun_mk (st := s__law_writ) l__law_writ c__law_writ k__law_writ).binds fun _ _ _ _ _ _ us hl => match us, hl with | [_], _ => rfl,
    m__law_writ := PySem.W.mg_of X G aF__law_writ,
    a__law_items := a__law_items,
    fd__law_items := _,
    F__law_items := fun_mk (st := s__law_items) l__law_items c__law_items k__law_items,
    b__law_items := (fun_mk (st := s__law_items) l__law_items c__law_items k__law_items).binds fun _ _ _ _ _ _ us hl => match us, hl with | [_, _, _], _ => rfl,
    m__law_items := PySem.W.mg_of X G aF__law_items,
    a__law_string := a__law_string,
    fd__law_string := _,
    F__law_string := fun_mk (st := s__law_string) l__law_string c__law_string k__law_string,
    b__law_string := (fun_mk (st := s__law_string) l__law_string c__law_string k__law_string).binds fun _ _ _ _ _ _ us hl => match us, hl with | [_, _], _ => rfl,
    m__law_string := PySem.W.mg_of X G aF__law_string,
    a__law_part := a__law_part,
    fd__law_part := _,
    F__law_part := fun_mk (st := s__law_part) l__law_part c__law_part k__law_part,
    b__law_part := (fun_mk (st := s__law_part) l__law_part c__law_part k__law_part).binds fun _ _ _ _ _ _ us hl => match us, hl with | [_, _], _ => rfl,
    m__law_part := PySem.W.mg_of X G aF__law_part,
    a__law_bent_text := a__law_bent_text,
    fd__law_bent_text := _,
    F__law_bent_text := fun_mk (st := s__law_bent_text) l__law_bent_text c__law_bent_text k__law_bent_text,
    b__law_bent_text := (fun_mk (st := s__law_bent_text) l__law_bent_text c__law_bent_text k__law_bent_text).binds fun _ _ _ _ _ _ us hl => match us, hl with | [_, _], _ => rfl,
    m__law_bent_text := PySem.W.mg_of X G aF__law_bent_text,
    a__law_text_drawn := a__law_text_drawn,
    fd__law_text_drawn := _,
    F__law_text_drawn := fun_mk (st := s__law_text_drawn) l__law_text_drawn c__law_text_drawn k__law_text_drawn,
    b__law_text_drawn := (fun_mk (st := s__law_text_drawn) l__law_text_drawn c__law_text_drawn k__law_text_drawn).binds fun _ _ _ _ _ _ us hl => match us, hl with | [_], _ => rfl,
    m__law_text_drawn := PySem.W.mg_of X G aF__law_text_drawn,
    a__law_caught := a__law_caught,
    fd__law_caught := _,
    F__law_caught := fun_mk (st := s__law_caught) l__law_caught c__law_caught k__law_caught,
    b__law_caught := (fun_mk (st := s__law_caught) l__law_caught c__law_caught k__law_caught).binds fun _ _ _ _ _ _ us hl => match us, hl with | [_, _], _ => rfl,
    m__law_caught := PySem.W.mg_of X G aF__law_caught,
    a__law_right := a__law_right,
    fd__law_right := _,
    F__law_right := fun_mk (st := s__law_right) l__law_right c__law_right k__law_right,
    b__law_right := (fun_mk (st := s__law_right) l__law_right c__law_right k__law_right).binds fun _ _ _ _ _ _ us hl => match us, hl with | [_], _ => rfl,
    m__law_right := PySem.W.mg_of X G aF__law_right,
    a_law := a_law,
    fd_law := _,
    F_law := fun_mk (st := s_law) l_law c_law k_law,
    b_law := (fun_mk (st := s_law) l_law c_law k_law).binds fun _ _ _ _ _ _ us hl => match us, hl with | [_], _ => rfl,
    m_law := PySem.W.mg_of X G aF_law }
theorem fin {l : PySem.W.OpenLaw} {w : World} {K : PySem.W.Frag} {mg : Str → Option Value} {fa : Addr} {h : Heap} (hfa : mg "law" = some (.ref fa)) (KX : K.In h) {P1 c1 : Addr} (tabs : ∀ p ∈ [P1], h.get? p = some (PySem.W.tabObj #[])) (T : Tx l.prog K mg) (hb : ∀ (s : Shared) (v : Value), BindsTo s T.fd_law ⟨[v], []⟩ [("_law_script", v)])
    (n1 : K.lookup P1 = none) (FC : FunC K "_law_right" "_law_right" s__law_right T.a__law_right T.fd__law_right c1) (e1 : PySem.W.codeHdIn K c1 P1 = true)
    (xmN : PySem.W.exmOne K (.ref T.C_NoDocument) (.ref T.C_TaglessError) = some true) (xmB : PySem.W.exmOne K (.ref T.C_BadText) (.ref T.C_TaglessError) = some true)
    (nn : PySem.W.kitOne K (.ref T.C_NoDocument) (.ref T.C_NoDocument) = some true) (nb : PySem.W.kitOne K (.ref T.C_NoDocument) (.ref T.C_BadText) = some false)
    (bn : PySem.W.kitOne K (.ref T.C_BadText) (.ref T.C_NoDocument) = some false) (bb : PySem.W.kitOne K (.ref T.C_BadText) (.ref T.C_BadText) = some true)
    (nv : PySem.W.kitOne K (.ref T.C_NoDocument) (.type "ValueError") = some true) (bv : PySem.W.kitOne K (.ref T.C_BadText) (.type "ValueError") = some true) :
    AtGT l w K CX0 72 63 "_law_script" mg fa h := by
  have e := hfa.symm.trans T.m_law
  injection e with e
  injection e with e
  subst e
  refine ⟨T.fd_law, [(c1, P1)], spLaw K P1, ?_, ?_, ?_, hb, ?_, ?_⟩
  · intro p hp
    simp only [List.mem_cons, List.not_mem_nil, or_false] at hp
    subst hp
    exact tabs _ (by simp)
  · intro p hp
    simp only [List.mem_cons, List.not_mem_nil, or_false] at hp
    subst hp
    exact n1
  · intro p hp
    simp only [List.mem_cons, List.not_mem_nil, or_false] at hp
    subst hp
    exact PySem.W.codeHd_of_K KX e1
  · intro H a ns hl ht hs
    refine ⟨a, ns, rfl, hs, hl, fun p hp => ?_, fun _ => rfl⟩
    simp only [tabL, List.mem_cons, List.not_mem_nil, or_false] at hp
    subst hp
    exact TabS.nil (ht (c1, P1) (by simp))
  · intro base _ _ tb
    exact ok_law T ⟨xmN, xmB, nn, nb, bn, bb, nv, bv⟩ (tb (c1, P1) (by simp)) FC
end K88
open PySem PySem.W PyProof.Rows
set_option maxHeartbeats 0 in
theorem PySem.Challenge.cw_tagless_k88_texts_of_any_value_holds : PySem.Challenge.rw_tagless_k88_texts_of_any_value.Holds :=
  head (by
  k_fill
  refine Tg.walkGT (l := PySem.Challenge.rw_tagless_k88_texts_of_any_value) (n := 63) (k := 72) (x := "_law_script") (CX := fun _ => L2.CX0) rfl (by decide) rfl ⟨rfl, by decide, by decide⟩ (fun w h Y => km_in_of Y) ?F fun _ _ _ _ _ z => z
  case F =>
    intro w mg fa h Y KX G hmg
    refine' K88.fin (P1 := 246) hmg KX (km_tabs_of Y) (K88.tx_mk KX G ?aD ?iD ?iL ?iC ?iO ?iV ?iF ?iE ?iK ?iS ?iT ?iP ?iY ?aC_TaglessError ?aC_NoDocument ?aC_BadText ?eC ?k_MOST_LETTERS ?k_QUOTE ?k_STROKE ?k_PARTED ?k_NAMED ?k_YES ?k_NO ?k_MINUS ?k_DIGITS ?k_MOST_DIGITS ?k_PAIR ?z_ValueError ?z_abs ?z_all ?z_bool ?z_dict ?z_int ?z_isinstance ?z_len ?z_list ?z_max ?z_min ?z_range ?z_repr ?z_sorted ?z_str ?aF_is_name ?l_is_name ?c_is_name ?k_is_name ?aF_is_document ?l_is_document ?c_is_document ?k_is_document ?aF_check_document ?l_check_document ?c_check_document ?k_check_document ?aF_string_text ?l_string_text ?c_string_text ?k_string_text ?aF_document_text ?l_document_text ?c_document_text ?k_document_text ?aF_show_document ?l_show_document ?c_show_document ?k_show_document ?aF_digits_behind ?l_digits_behind ?c_digits_behind ?k_digits_behind ?aF_number_at ?l_number_at ?c_number_at ?k_number_at ?aF_string_at ?l_string_at ?c_string_at ?k_string_at ?aF_list_at ?l_list_at ?c_list_at ?k_list_at ?aF_field_at ?l_field_at ?c_field_at ?k_field_at ?aF_record_at ?l_record_at ?c_record_at ?k_record_at ?aF_part_at ?l_part_at ?c_part_at ?k_part_at ?aF_document_in ?l_document_in ?c_document_in ?k_document_in ?aF_read_document ?l_read_document ?c_read_document ?k_read_document ?aF__law_pot ?l__law_pot ?c__law_pot ?k__law_pot ?aF__law_take ?l__law_take ?c__law_take ?k__law_take ?aF__law_of ?l__law_of ?c__law_of ?k__law_of ?aF__law_unlike ?l__law_unlike ?c__law_unlike ?k__law_unlike ?aF__law_flat ?l__law_flat ?c__law_flat ?k__law_flat ?aF__law_any ?l__law_any ?c__law_any ?k__law_any ?aF__law_writ ?l__law_writ ?c__law_writ ?k__law_writ ?aF__law_items ?l__law_items ?c__law_items ?k__law_items ?aF__law_string ?l__law_string ?c__law_string ?k__law_string ?aF__law_part ?l__law_part ?c__law_part ?k__law_part ?aF__law_bent_text ?l__law_bent_text ?c__law_bent_text ?k__law_bent_text ?aF__law_text_drawn ?l__law_text_drawn ?c__law_text_drawn ?k__law_text_drawn ?aF__law_caught ?l__law_caught ?c__law_caught ?k__law_caught ?aF__law_right ?l__law_right ?c__law_right ?k__law_right ?aF_law ?l_law ?c_law ?k_law) ?hb ?hn1 ⟨⟨_, _, _, _, _, _, _, _, rfl, ?l__law_right, ?c__law_right⟩⟩ ?he1 ?hxmN ?hxmB ?hnn ?hnb ?hbn ?hbb ?hnv ?hbv
    (case aD => k_is)
    (case iD => k_is)
    (case iL => k_is)
    (case iC => k_is)
    (case iO => k_is)
    (case iV => exact rfl)
    (case iF => (first | exact rfl | decide +kernel))
    (case iE => k_is)
    (case iK => k_is)
    (case iS => k_is)
    (case iT => k_is)
    (case iP => decide +kernel)
    (case iY => k_is)
    (case aC_TaglessError => k_is)
    (case aC_NoDocument => k_is)
    (case aC_BadText => k_is)
    (case eC => kernel_rfl)
    (case k_MOST_LETTERS => k_is)
    (case k_QUOTE => k_is)
    (case k_STROKE => k_is)
    (case k_PARTED => k_is)
    (case k_NAMED => k_is)
    (case k_YES => k_is)
    (case k_NO => k_is)
    (case k_MINUS => k_is)
    (case k_DIGITS => k_is)
    (case k_MOST_DIGITS => k_is)
    (case k_PAIR => k_is)
    (case z_ValueError => k_is)
    (case z_abs => k_is)
    (case z_all => k_is)
    (case z_bool => k_is)
    (case z_dict => k_is)
    (case z_int => k_is)
    (case z_isinstance => k_is)
    (case z_len => k_is)
    (case z_list => k_is)
    (case z_max => k_is)
    (case z_min => k_is)
    (case z_range => k_is)
    (case z_repr => k_is)
    (case z_sorted => k_is)
    (case z_str => k_is)
    (case aF_is_name => k_is)
    (case l_is_name => k_is)
    (case c_is_name => k_is)
    (case k_is_name => k_is)
    (case aF_is_document => k_is)
    (case l_is_document => k_is)
    (case c_is_document => k_is)
    (case k_is_document => k_is)
    (case aF_check_document => k_is)
    (case l_check_document => k_is)
    (case c_check_document => k_is)
    (case k_check_document => k_is)
    (case aF_string_text => k_is)
    (case l_string_text => k_is)
    (case c_string_text => k_is)
    (case k_string_text => k_is)
    (case aF_document_text => k_is)
    (case l_document_text => k_is)
    (case c_document_text => k_is)
    (case k_document_text => k_is)
    (case aF_show_document => k_is)
    (case l_show_document => k_is)
    (case c_show_document => k_is)
    (case k_show_document => k_is)
    (case aF_digits_behind => k_is)
    (case l_digits_behind => k_is)
    (case c_digits_behind => k_is)
    (case k_digits_behind => k_is)
    (case aF_number_at => k_is)
    (case l_number_at => k_is)
    (case c_number_at => k_is)
    (case k_number_at => k_is)
    (case aF_string_at => k_is)
    (case l_string_at => k_is)
    (case c_string_at => k_is)
    (case k_string_at => k_is)
    (case aF_list_at => k_is)
    (case l_list_at => k_is)
    (case c_list_at => k_is)
    (case k_list_at => k_is)
    (case aF_field_at => k_is)
    (case l_field_at => k_is)
    (case c_field_at => k_is)
    (case k_field_at => k_is)
    (case aF_record_at => k_is)
    (case l_record_at => k_is)
    (case c_record_at => k_is)
    (case k_record_at => k_is)
    (case aF_part_at => k_is)
    (case l_part_at => k_is)
    (case c_part_at => k_is)
    (case k_part_at => k_is)
    (case aF_document_in => k_is)
    (case l_document_in => k_is)
    (case c_document_in => k_is)
    (case k_document_in => k_is)
    (case aF_read_document => k_is)
    (case l_read_document => k_is)
    (case c_read_document => k_is)
    (case k_read_document => k_is)
    (case aF__law_pot => k_is)
    (case l__law_pot => k_is)
    (case c__law_pot => k_is)
    (case k__law_pot => k_is)
    (case aF__law_take => k_is)
    (case l__law_take => k_is)
    (case c__law_take => k_is)
    (case k__law_take => k_is)
    (case aF__law_of => k_is)
    (case l__law_of => k_is)
    (case c__law_of => k_is)
    (case k__law_of => k_is)
    (case aF__law_unlike => k_is)
    (case l__law_unlike => k_is)
    (case c__law_unlike => k_is)
    (case k__law_unlike => k_is)
    (case aF__law_flat => k_is)
    (case l__law_flat => k_is)
    (case c__law_flat => k_is)
    (case k__law_flat => k_is)
    (case aF__law_any => k_is)
    (case l__law_any => k_is)
    (case c__law_any => k_is)
    (case k__law_any => k_is)
    (case aF__law_writ => k_is)
    (case l__law_writ => k_is)
    (case c__law_writ => k_is)
    (case k__law_writ => k_is)
    (case aF__law_items => k_is)
    (case l__law_items => k_is)
    (case c__law_items => k_is)
    (case k__law_items => k_is)
    (case aF__law_string => k_is)
    (case l__law_string => k_is)
    (case c__law_string => k_is)
    (case k__law_string => k_is)
    (case aF__law_part => k_is)
    (case l__law_part => k_is)
    (case c__law_part => k_is)
    (case k__law_part => k_is)
    (case aF__law_bent_text => k_is)
    (case l__law_bent_text => k_is)
    (case c__law_bent_text => k_is)
    (case k__law_bent_text => k_is)
    (case aF__law_text_drawn => k_is)
    (case l__law_text_drawn => k_is)
    (case c__law_text_drawn => k_is)
    (case k__law_text_drawn => k_is)
    (case aF__law_caught => k_is)
    (case l__law_caught => k_is)
    (case c__law_caught => k_is)
    (case k__law_caught => k_is)
    (case aF__law_right => k_is)
    (case l__law_right => k_is)
    (case c__law_right => k_is)
    (case k__law_right => k_is)
    (case aF_law => k_is)
    (case l_law => k_is)
    (case c_law => k_is)
    (case k_law => k_is)
    (case hb => exact fun s v => .of_eq rfl)
    (case hn1 => kernel_rfl)
    (case he1 => kernel_rfl)
    (case hxmN => kernel_rfl)
    (case hxmB => kernel_rfl)
    (case hnn => kernel_rfl)
    (case hnb => kernel_rfl)
    (case hbn => kernel_rfl)
    (case hbb => kernel_rfl)
    (case hnv => kernel_rfl)
    (case hbv => kernel_rfl))
